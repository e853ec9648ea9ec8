import PyProof.Rows.All
import Wide.All
import OpenK.AllK
import Wide.FinOn
import HandS.ForMost
import HandS.Exc
import HandS.WordsExc
import HandS.ExcOwn
import HandS.Style
import HandS.Walk
import HandS.Defaults
import HandS.HeadEnd
import HandS.Zip
import HandS.Deep
import HandS.Conv
import HandS.IsInst
import HandS.SortInts
import HandS.SetKeys
import HandS.Head2
import HandS.HeadHook2
import HandS.Words
import PyProof.ReprLen
import PyProof.FitsInt
import HandS.Head0
import HandS.Head1
import HandS.HeadHook1
import PySem.Challenge.RW_webnames_k30_any_value_as_colouring
set_option Elab.async false
set_option linter.all false
set_option maxRecDepth 100000
set_option maxHeartbeats 0
/-! VL 1: data as trees, what stands for them in the abstract heap, own and frozen lists -/
namespace VL
open PySem PySem.Spec PyProof.Rows L2

/-- data; a list (dict) with true is owned: nobody else knows it -/
inductive D where
  | non
  | bl (b : Bool)
  | int (i : Int)
  | str (x : Str)
  | lst (o : Bool) (xs : List D)
  | tup (xs : List D)
  | wl (xs : List D)
  | dK (o : Bool) (ks : List Key) (ds : List D)
  | dT (o : Bool) (ks : List (List Key)) (ds : List D)

abbrev Frag := PySem.W.Frag
def WrL (K : Frag) (a : Addr) (xs : List V) : Prop :=
  ∃ (o : Obj) (its : Array Value) (n : Nat), K.lookup a = some o ∧ o.cls = .type "list" ∧ o.dict = none ∧ o.data = .seq its n ∧ its.size ≤ sizeLine ∧ Vals xs its.toList
/-- a frozen list: tracked, and avoided by none -/
def FzL (H : Hp) (L : List Addr) (a : Addr) (xs : List V) : Prop := H a = some (.lst xs) ∧ a ∉ L
/-- a list that none can change: locked, or the module's own -/
def WlL (K : Frag) (H : Hp) (a : Addr) (xs : List V) : Prop := (∃ o, H a = some (.frz o (.lst xs))) ∨ WrL K a xs
theorem FzL.sq {K : Frag} {H : Hp} {L : List Addr} {a : Addr} {xs : List V} (h : FzL H L a xs) : SqL K H a xs := .inl (.inl h.1)
theorem WlL.sq {K : Frag} {H : Hp} {a : Addr} {xs : List V} (h : WlL K H a xs) : SqL K H a xs := by
  rcases h with h | h
  · exact .inl (.inr h)
  · exact .inr h
/-- what an owned address holds -/
def OwnO : Option HO → Prop
  | some (.lst _) => True
  | some (.dK _) => True
  | some (.dT _) => True
  | _ => False

mutual
def Rp (K : Frag) (H : Hp) (L : List Addr) : D → V → List Addr → Prop
  | .non, v, T => v = .non ∧ T = []
  | .bl b, v, T => v = .bl b ∧ T = []
  | .int i, v, T => v = .int i ∧ T = []
  | .str x, v, T => v = .str x ∧ T = []
  | .lst true xs, v, T => ∃ a vs T', v = .ref a ∧ H a = some (.lst vs) ∧ T = a :: T' ∧ Rps K H L xs vs T'
  | .lst false xs, v, T => ∃ a vs, v = .ref a ∧ FzL H L a vs ∧ T = [] ∧ Rps K H L xs vs []
  | .tup xs, v, T => ∃ a vs, v = .ref a ∧ SqT K H a vs ∧ Rps K H L xs vs T
  | .wl xs, v, T => ∃ a vs, v = .ref a ∧ WlL K H a vs ∧ T = [] ∧ Rps K H L xs vs []
  | .dK true ks ds, v, T => ∃ a vs T', v = .ref a ∧ ks.length = vs.length ∧ H a = some (.dK (ks.zip vs)) ∧ T = a :: T' ∧ Rps K H L ds vs T'
  | .dK false ks ds, v, T => ∃ a vs, v = .ref a ∧ ks.length = vs.length ∧ H a = some (.dK (ks.zip vs)) ∧ a ∉ L ∧ T = [] ∧ Rps K H L ds vs []
  | .dT true ks ds, v, T => ∃ a vs T', v = .ref a ∧ ks.length = vs.length ∧ H a = some (.dT (ks.zip vs)) ∧ T = a :: T' ∧ Rps K H L ds vs T'
  | .dT false ks ds, v, T => ∃ a vs, v = .ref a ∧ ks.length = vs.length ∧ H a = some (.dT (ks.zip vs)) ∧ a ∉ L ∧ T = [] ∧ Rps K H L ds vs []
def Rps (K : Frag) (H : Hp) (L : List Addr) : List D → List V → List Addr → Prop
  | [], vs, T => vs = [] ∧ T = []
  | d :: ds, vs, T => ∃ v vs' T1 T2, vs = v :: vs' ∧ T = T1 ++ T2 ∧ Rp K H L d v T1 ∧ Rps K H L ds vs' T2
end

mutual
/-- no owned part -/
def noOwn : D → Bool
  | .lst o xs => !o && noOwns xs
  | .tup xs => noOwns xs
  | .wl xs => noOwns xs
  | .dK o _ ds => !o && noOwns ds
  | .dT o _ ds => !o && noOwns ds
  | _ => true
def noOwns : List D → Bool
  | [] => true
  | d :: ds => noOwn d && noOwns ds
end
mutual
/-- no frozen list or dict -/
def noFz : D → Bool
  | .lst o xs => o && noFzs xs
  | .tup xs => noFzs xs
  | .wl xs => noFzs xs
  | .dK o _ ds => o && noFzs ds
  | .dT o _ ds => o && noFzs ds
  | _ => true
def noFzs : List D → Bool
  | [] => true
  | d :: ds => noFz d && noFzs ds
end
mutual
/-- frozen -/
def fz : D → D
  | .lst _ xs => .lst false (fzs xs)
  | .tup xs => .tup (fzs xs)
  | .wl xs => .wl (fzs xs)
  | .dK _ ks ds => .dK false ks (fzs ds)
  | .dT _ ks ds => .dT false ks (fzs ds)
  | .non => .non
  | .bl b => .bl b
  | .int i => .int i
  | .str x => .str x
def fzs : List D → List D
  | [] => []
  | d :: ds => fz d :: fzs ds
end

section
variable {K : Frag} {H H' : Hp} {L L' : List Addr}
mutual
theorem Rp.anti (h : ∀ a ∈ L', a ∈ L) : ∀ {d : D} {v : V} {T : List Addr}, Rp K H L d v T → Rp K H L' d v T
  | .non, _, _, r => r
  | .bl _, _, _, r => r
  | .int _, _, _, r => r
  | .str _, _, _, r => r
  | .lst true _, _, _, r => by
    obtain ⟨a, vs, T', e1, e2, e3, e4⟩ := r
    exact ⟨a, vs, T', e1, e2, e3, Rps.anti h e4⟩
  | .lst false _, _, _, r => by
    obtain ⟨a, vs, e1, e2, e3, e4⟩ := r
    exact ⟨a, vs, e1, ⟨e2.1, fun z => e2.2 (h a z)⟩, e3, Rps.anti h e4⟩
  | .tup _, _, _, r => by
    obtain ⟨a, vs, e1, e2, e4⟩ := r
    exact ⟨a, vs, e1, e2, Rps.anti h e4⟩
  | .wl _, _, _, r => by
    obtain ⟨a, vs, e1, e2, e3, e4⟩ := r
    exact ⟨a, vs, e1, e2, e3, Rps.anti h e4⟩
  | .dK true _ _, _, _, r => by
    obtain ⟨a, vs, T', e1, e0, e2, e3, e4⟩ := r
    exact ⟨a, vs, T', e1, e0, e2, e3, Rps.anti h e4⟩
  | .dK false _ _, _, _, r => by
    obtain ⟨a, vs, e1, e0, e2, e5, e3, e4⟩ := r
    exact ⟨a, vs, e1, e0, e2, fun z => e5 (h a z), e3, Rps.anti h e4⟩
  | .dT true _ _, _, _, r => by
    obtain ⟨a, vs, T', e1, e0, e2, e3, e4⟩ := r
    exact ⟨a, vs, T', e1, e0, e2, e3, Rps.anti h e4⟩
  | .dT false _ _, _, _, r => by
    obtain ⟨a, vs, e1, e0, e2, e5, e3, e4⟩ := r
    exact ⟨a, vs, e1, e0, e2, fun z => e5 (h a z), e3, Rps.anti h e4⟩
theorem Rps.anti (h : ∀ a ∈ L', a ∈ L) : ∀ {ds : List D} {vs : List V} {T : List Addr}, Rps K H L ds vs T → Rps K H L' ds vs T
  | [], _, _, r => r
  | _ :: _, _, _, r => by
    obtain ⟨v, vs', T1, T2, e1, e2, e3, e4⟩ := r
    exact ⟨v, vs', T1, T2, e1, e2, Rp.anti h e3, Rps.anti h e4⟩
end
mutual
theorem Rp.own : ∀ {d : D} {v : V} {T : List Addr}, Rp K H L d v T → ∀ a ∈ T, OwnO (H a)
  | .non, _, _, r => by obtain ⟨_, rfl⟩ := r; simp
  | .bl _, _, _, r => by obtain ⟨_, rfl⟩ := r; simp
  | .int _, _, _, r => by obtain ⟨_, rfl⟩ := r; simp
  | .str _, _, _, r => by obtain ⟨_, rfl⟩ := r; simp
  | .lst true _, _, _, r => by
    obtain ⟨a, vs, T', e1, e2, rfl, e4⟩ := r
    intro b hb
    rcases List.mem_cons.mp hb with rfl | hb
    · rw [e2]; trivial
    · exact Rps.own e4 b hb
  | .lst false _, _, _, r => by
    obtain ⟨a, vs, e1, e2, rfl, e4⟩ := r
    simp
  | .tup _, _, _, r => by
    obtain ⟨a, vs, e1, e2, e4⟩ := r
    exact Rps.own e4
  | .wl _, _, _, r => by
    obtain ⟨a, vs, e1, e2, rfl, e4⟩ := r
    simp
  | .dK true _ _, _, _, r => by
    obtain ⟨a, vs, T', e1, e0, e2, rfl, e4⟩ := r
    intro b hb
    rcases List.mem_cons.mp hb with rfl | hb
    · rw [e2]; trivial
    · exact Rps.own e4 b hb
  | .dK false _ _, _, _, r => by
    obtain ⟨a, vs, e1, e0, e2, e5, rfl, e4⟩ := r
    simp
  | .dT true _ _, _, _, r => by
    obtain ⟨a, vs, T', e1, e0, e2, rfl, e4⟩ := r
    intro b hb
    rcases List.mem_cons.mp hb with rfl | hb
    · rw [e2]; trivial
    · exact Rps.own e4 b hb
  | .dT false _ _, _, _, r => by
    obtain ⟨a, vs, e1, e0, e2, e5, rfl, e4⟩ := r
    simp
theorem Rps.own : ∀ {ds : List D} {vs : List V} {T : List Addr}, Rps K H L ds vs T → ∀ a ∈ T, OwnO (H a)
  | [], _, _, r => by obtain ⟨_, rfl⟩ := r; simp
  | _ :: _, _, _, r => by
    obtain ⟨v, vs', T1, T2, rfl, rfl, e3, e4⟩ := r
    intro b hb
    rcases List.mem_append.mp hb with hb | hb
    · exact Rp.own e3 b hb
    · exact Rps.own e4 b hb
end
/-- where M may have changed, M owned and avoided -/
structure Mv (H H' : Hp) (M L L' : List Addr) : Prop where
  keep : ∀ a u, H a = some u → a ∉ M → H' a = some u
  own : ∀ a ∈ M, OwnO (H a)
  inL : ∀ a ∈ M, a ∈ L
  new : ∀ a ∈ L', a ∈ L ∨ H a = none
theorem Mv.tup {M : List Addr} (m : Mv H H' M L L') {a : Addr} {xs : List V} (h : SqT K H a xs) : SqT K H' a xs := by
  have nm : ∀ {u : HO}, H a = some u → ¬ OwnO (some u) → a ∉ M := fun {u} q n z => by
    have := m.own a z
    rw [q] at this
    exact n this
  rcases h with (h | ⟨o, h⟩) | h
  · exact .inl (.inl (m.keep _ _ h (nm h fun z => z)))
  · exact .inl (.inr ⟨o, m.keep _ _ h (nm h fun z => z)⟩)
  · exact .inr h
theorem Mv.fzl {M : List Addr} (m : Mv H H' M L L') {a : Addr} {xs : List V} (h : FzL H L a xs) : FzL H' L' a xs := by
  refine ⟨m.keep _ _ h.1 fun z => h.2 (m.inL a z), fun z => ?_⟩
  rcases m.new a z with z | z
  · exact h.2 z
  · rw [h.1] at z; cases z
theorem Mv.wl {M : List Addr} (m : Mv H H' M L L') {a : Addr} {xs : List V} (h : WlL K H a xs) : WlL K H' a xs := by
  rcases h with ⟨o, q⟩ | q
  · refine .inl ⟨o, m.keep _ _ q fun z => ?_⟩
    have := m.own a z
    rw [q] at this
    exact this
  · exact .inr q
theorem Mv.fzd {M : List Addr} (m : Mv H H' M L L') {a : Addr} {u : HO} (h : H a = some u) (n : a ∉ L) : H' a = some u ∧ a ∉ L' := by
  refine ⟨m.keep _ _ h fun z => n (m.inL a z), fun z => ?_⟩
  rcases m.new a z with z | z
  · exact n z
  · rw [h] at z; cases z
mutual
theorem Rp.mv {M : List Addr} (m : Mv H H' M L L') : ∀ {d : D} {v : V} {T : List Addr}, Rp K H L d v T → (∀ a ∈ T, a ∉ M) → Rp K H' L' d v T
  | .non, _, _, r, _ => r
  | .bl _, _, _, r, _ => r
  | .int _, _, _, r, _ => r
  | .str _, _, _, r, _ => r
  | .lst true _, _, _, r, n => by
    obtain ⟨a, vs, T', e1, e2, rfl, e4⟩ := r
    exact ⟨a, vs, T', e1, m.keep _ _ e2 (n a List.mem_cons_self), rfl, Rps.mv m e4 fun b hb => n b (List.mem_cons_of_mem _ hb)⟩
  | .lst false _, _, _, r, _ => by
    obtain ⟨a, vs, e1, e2, e3, e4⟩ := r
    exact ⟨a, vs, e1, m.fzl e2, e3, Rps.mv m e4 (by simp)⟩
  | .tup _, _, _, r, n => by
    obtain ⟨a, vs, e1, e2, e4⟩ := r
    exact ⟨a, vs, e1, m.tup e2, Rps.mv m e4 n⟩
  | .wl _, _, _, r, _ => by
    obtain ⟨a, vs, e1, e2, e3, e4⟩ := r
    exact ⟨a, vs, e1, m.wl e2, e3, Rps.mv m e4 (by simp)⟩
  | .dK true _ _, _, _, r, n => by
    obtain ⟨a, vs, T', e1, e0, e2, rfl, e4⟩ := r
    exact ⟨a, vs, T', e1, e0, m.keep _ _ e2 (n a List.mem_cons_self), rfl, Rps.mv m e4 fun b hb => n b (List.mem_cons_of_mem _ hb)⟩
  | .dK false _ _, _, _, r, _ => by
    obtain ⟨a, vs, e1, e0, e2, e5, e3, e4⟩ := r
    exact ⟨a, vs, e1, e0, (m.fzd e2 e5).1, (m.fzd e2 e5).2, e3, Rps.mv m e4 (by simp)⟩
  | .dT true _ _, _, _, r, n => by
    obtain ⟨a, vs, T', e1, e0, e2, rfl, e4⟩ := r
    exact ⟨a, vs, T', e1, e0, m.keep _ _ e2 (n a List.mem_cons_self), rfl, Rps.mv m e4 fun b hb => n b (List.mem_cons_of_mem _ hb)⟩
  | .dT false _ _, _, _, r, _ => by
    obtain ⟨a, vs, e1, e0, e2, e5, e3, e4⟩ := r
    exact ⟨a, vs, e1, e0, (m.fzd e2 e5).1, (m.fzd e2 e5).2, e3, Rps.mv m e4 (by simp)⟩
theorem Rps.mv {M : List Addr} (m : Mv H H' M L L') : ∀ {ds : List D} {vs : List V} {T : List Addr}, Rps K H L ds vs T → (∀ a ∈ T, a ∉ M) → Rps K H' L' ds vs T
  | [], _, _, r, _ => r
  | _ :: _, _, _, r, n => by
    obtain ⟨v, vs', T1, T2, rfl, rfl, e3, e4⟩ := r
    exact ⟨v, vs', T1, T2, rfl, rfl, Rp.mv m e3 (fun a h => n a (List.mem_append_left _ h)), Rps.mv m e4 (fun a h => n a (List.mem_append_right _ h))⟩
end
mutual
theorem Rp.free : ∀ {d : D} {v : V} {T : List Addr}, noOwn d = true → Rp K H L d v T → T = []
  | .non, _, _, _, r => r.2
  | .bl _, _, _, _, r => r.2
  | .int _, _, _, _, r => r.2
  | .str _, _, _, _, r => r.2
  | .lst true _, _, _, n, _ => by simp [noOwn] at n
  | .lst false _, _, _, _, r => by
    obtain ⟨a, vs, e1, e2, e3, e4⟩ := r
    exact e3
  | .tup _, _, _, n, r => by
    obtain ⟨a, vs, e1, e2, e4⟩ := r
    exact Rps.free n e4
  | .wl _, _, _, _, r => by
    obtain ⟨a, vs, e1, e2, e3, e4⟩ := r
    exact e3
  | .dK true _ _, _, _, n, _ => by simp [noOwn] at n
  | .dK false _ _, _, _, _, r => by
    obtain ⟨a, vs, e1, e0, e2, e5, e3, e4⟩ := r
    exact e3
  | .dT true _ _, _, _, n, _ => by simp [noOwn] at n
  | .dT false _ _, _, _, _, r => by
    obtain ⟨a, vs, e1, e0, e2, e5, e3, e4⟩ := r
    exact e3
theorem Rps.free : ∀ {ds : List D} {vs : List V} {T : List Addr}, noOwns ds = true → Rps K H L ds vs T → T = []
  | [], _, _, _, r => r.2
  | _ :: _, _, _, n, r => by
    obtain ⟨v, vs', T1, T2, rfl, rfl, e3, e4⟩ := r
    simp only [noOwns, Bool.and_eq_true] at n
    rw [Rp.free n.1 e3, Rps.free n.2 e4]
    rfl
end
mutual
theorem Rp.loose : ∀ {d : D} {v : V} {T : List Addr}, noFz d = true → Rp K H L d v T → Rp K H L' d v T
  | .non, _, _, _, r => r
  | .bl _, _, _, _, r => r
  | .int _, _, _, _, r => r
  | .str _, _, _, _, r => r
  | .lst true _, _, _, n, r => by
    obtain ⟨a, vs, T', e1, e2, e3, e4⟩ := r
    exact ⟨a, vs, T', e1, e2, e3, Rps.loose (by simpa [noFz] using n) e4⟩
  | .lst false _, _, _, n, r => by simp [noFz] at n
  | .tup _, _, _, n, r => by
    obtain ⟨a, vs, e1, e2, e4⟩ := r
    exact ⟨a, vs, e1, e2, Rps.loose n e4⟩
  | .wl _, _, _, n, r => by
    obtain ⟨a, vs, e1, e2, e3, e4⟩ := r
    exact ⟨a, vs, e1, e2, e3, Rps.loose n e4⟩
  | .dK true _ _, _, _, n, r => by
    obtain ⟨a, vs, T', e1, e0, e2, e3, e4⟩ := r
    exact ⟨a, vs, T', e1, e0, e2, e3, Rps.loose (by simpa [noFz] using n) e4⟩
  | .dK false _ _, _, _, n, r => by simp [noFz] at n
  | .dT true _ _, _, _, n, r => by
    obtain ⟨a, vs, T', e1, e0, e2, e3, e4⟩ := r
    exact ⟨a, vs, T', e1, e0, e2, e3, Rps.loose (by simpa [noFz] using n) e4⟩
  | .dT false _ _, _, _, n, r => by simp [noFz] at n
theorem Rps.loose : ∀ {ds : List D} {vs : List V} {T : List Addr}, noFzs ds = true → Rps K H L ds vs T → Rps K H L' ds vs T
  | [], _, _, _, r => r
  | _ :: _, _, _, n, r => by
    obtain ⟨v, vs', T1, T2, rfl, rfl, e3, e4⟩ := r
    simp only [noFzs, Bool.and_eq_true] at n
    exact ⟨v, vs', T1, T2, rfl, rfl, Rp.loose n.1 e3, Rps.loose n.2 e4⟩
end
mutual
/-- frozen: its own addresses are no longer avoided -/
theorem Rp.fz : ∀ {d : D} {v : V} {T : List Addr}, Rp K H L d v T → (∀ a ∈ L', a ∈ L ∧ a ∉ T) → Rp K H L' (fz d) v []
  | .non, _, _, r, _ => ⟨r.1, rfl⟩
  | .bl _, _, _, r, _ => ⟨r.1, rfl⟩
  | .int _, _, _, r, _ => ⟨r.1, rfl⟩
  | .str _, _, _, r, _ => ⟨r.1, rfl⟩
  | .lst true _, _, _, r, n => by
    obtain ⟨a, vs, T', e1, e2, rfl, e4⟩ := r
    exact ⟨a, vs, e1, ⟨e2, fun z => (n a z).2 List.mem_cons_self⟩, rfl, Rps.fz e4 fun b hb => ⟨(n b hb).1, fun z => (n b hb).2 (List.mem_cons_of_mem _ z)⟩⟩
  | .lst false _, _, _, r, n => by
    obtain ⟨a, vs, e1, e2, rfl, e4⟩ := r
    exact ⟨a, vs, e1, ⟨e2.1, fun z => e2.2 (n a z).1⟩, rfl, Rps.fz e4 n⟩
  | .tup _, _, _, r, n => by
    obtain ⟨a, vs, e1, e2, e4⟩ := r
    exact ⟨a, vs, e1, e2, Rps.fz e4 n⟩
  | .wl _, _, _, r, n => by
    obtain ⟨a, vs, e1, e2, rfl, e4⟩ := r
    exact ⟨a, vs, e1, e2, rfl, Rps.fz e4 n⟩
  | .dK true _ _, _, _, r, n => by
    obtain ⟨a, vs, T', e1, e0, e2, rfl, e4⟩ := r
    exact ⟨a, vs, e1, e0, e2, fun z => (n a z).2 List.mem_cons_self, rfl, Rps.fz e4 fun b hb => ⟨(n b hb).1, fun z => (n b hb).2 (List.mem_cons_of_mem _ z)⟩⟩
  | .dK false _ _, _, _, r, n => by
    obtain ⟨a, vs, e1, e0, e2, e5, rfl, e4⟩ := r
    exact ⟨a, vs, e1, e0, e2, fun z => e5 (n a z).1, rfl, Rps.fz e4 n⟩
  | .dT true _ _, _, _, r, n => by
    obtain ⟨a, vs, T', e1, e0, e2, rfl, e4⟩ := r
    exact ⟨a, vs, e1, e0, e2, fun z => (n a z).2 List.mem_cons_self, rfl, Rps.fz e4 fun b hb => ⟨(n b hb).1, fun z => (n b hb).2 (List.mem_cons_of_mem _ z)⟩⟩
  | .dT false _ _, _, _, r, n => by
    obtain ⟨a, vs, e1, e0, e2, e5, rfl, e4⟩ := r
    exact ⟨a, vs, e1, e0, e2, fun z => e5 (n a z).1, rfl, Rps.fz e4 n⟩
theorem Rps.fz : ∀ {ds : List D} {vs : List V} {T : List Addr}, Rps K H L ds vs T → (∀ a ∈ L', a ∈ L ∧ a ∉ T) → Rps K H L' (fzs ds) vs []
  | [], _, _, r, _ => ⟨r.1, rfl⟩
  | _ :: _, _, _, r, n => by
    obtain ⟨v, vs', T1, T2, rfl, rfl, e3, e4⟩ := r
    exact ⟨v, vs', [], [], rfl, rfl, Rp.fz e3 (fun a z => ⟨(n a z).1, fun y => (n a z).2 (List.mem_append_left _ y)⟩), Rps.fz e4 (fun a z => ⟨(n a z).1, fun y => (n a z).2 (List.mem_append_right _ y)⟩)⟩
end
theorem Rps.length : ∀ {ds : List D} {vs : List V} {T : List Addr}, Rps K H L ds vs T → ds.length = vs.length
  | [], _, _, r => by simp [r.1]
  | _ :: _, _, _, r => by
    obtain ⟨v, vs', T1, T2, rfl, rfl, e3, e4⟩ := r
    simp [Rps.length e4]
theorem Rps.append : ∀ {ds es : List D} {vs ws : List V} {T U : List Addr}, Rps K H L ds vs T → Rps K H L es ws U → Rps K H L (ds ++ es) (vs ++ ws) (T ++ U)
  | [], _, _, _, _, _, r, q => by
    obtain ⟨rfl, rfl⟩ := r
    exact q
  | _ :: _, _, _, _, _, _, r, q => by
    obtain ⟨v, vs', T1, T2, rfl, rfl, e3, e4⟩ := r
    exact ⟨v, _, T1, _, rfl, by simp, e3, Rps.append e4 q⟩
theorem Rps.split : ∀ {ds es : List D} {vs : List V} {T : List Addr}, Rps K H L (ds ++ es) vs T → ∃ vs1 vs2 T1 T2, vs = vs1 ++ vs2 ∧ T = T1 ++ T2 ∧ Rps K H L ds vs1 T1 ∧ Rps K H L es vs2 T2
  | [], _, vs, T, r => ⟨[], vs, [], T, rfl, rfl, ⟨rfl, rfl⟩, r⟩
  | d :: ds, es, vs, T, r => by
    obtain ⟨v, vs', T1, T2, rfl, rfl, e3, e4⟩ := r
    obtain ⟨a, b, c, d', rfl, rfl, h1, h2⟩ := Rps.split (ds := ds) e4
    exact ⟨v :: a, b, T1 ++ c, d', rfl, by simp, ⟨v, a, T1, c, rfl, rfl, e3, h1⟩, h2⟩
theorem Rps.get : ∀ {ds : List D} {vs : List V} {T : List Addr} {i : Nat} {d : D}, Rps K H L ds vs T → ds[i]? = some d → ∃ v T1, vs[i]? = some v ∧ Rp K H L d v T1 ∧ T1.Sublist T
  | [], _, _, _, _, _, e => by simp at e
  | d0 :: _, _, _, 0, d, r, e => by
    obtain ⟨v, vs', T1, T2, rfl, rfl, e3, e4⟩ := r
    have : d0 = d := by simpa using e
    subst this
    exact ⟨v, T1, rfl, e3, List.sublist_append_left _ _⟩
  | _ :: _, _, _, i + 1, d, r, e => by
    obtain ⟨v, vs', T1, T2, rfl, rfl, e3, e4⟩ := r
    obtain ⟨w, U, h1, h2, h3⟩ := Rps.get (i := i) (d := d) e4 (by simpa using e)
    exact ⟨w, U, by simpa using h1, h2, h3.trans (List.sublist_append_right _ _)⟩
/-- the part at i taken out, another one put in -/
theorem Rps.swap : ∀ {ds : List D} {vs : List V} {T : List Addr} {i : Nat} {d : D}, Rps K H L ds vs T → ds[i]? = some d →
    ∃ v T1 T2, vs[i]? = some v ∧ Rp K H L d v T1 ∧ T.Perm (T1 ++ T2) ∧ ∀ {e : D} {w : V} {U : List Addr}, Rp K H L e w U → ∃ T3, T3.Perm (U ++ T2) ∧ Rps K H L (ds.set i e) (vs.set i w) T3
  | [], _, _, _, _, _, e => by simp at e
  | d0 :: _, _, _, 0, d, r, e => by
    obtain ⟨v, vs', T1, T2, rfl, rfl, e3, e4⟩ := r
    have : d0 = d := by simpa using e
    subst this
    exact ⟨v, T1, T2, rfl, e3, .refl _, fun {e w U} q => ⟨U ++ T2, .refl _, ⟨w, vs', U, T2, rfl, rfl, q, e4⟩⟩⟩
  | _ :: _, _, _, i + 1, d, r, e => by
    obtain ⟨v, vs', T1, T2, rfl, rfl, e3, e4⟩ := r
    obtain ⟨w, A, B, h1, h2, h3, h4⟩ := Rps.swap (i := i) (d := d) e4 (by simpa using e)
    refine ⟨w, A, T1 ++ B, by simpa using h1, h2, ?_, fun {e x U} q => ?_⟩
    · refine (List.Perm.append_left T1 h3).trans ?_
      rw [← List.append_assoc, ← List.append_assoc]
      exact List.Perm.append_right _ List.perm_append_comm
    · obtain ⟨T3, p, q'⟩ := h4 q
      refine ⟨T1 ++ T3, ?_, ⟨v, _, T1, T3, by simp, rfl, e3, q'⟩⟩
      refine (List.Perm.append_left T1 p).trans ?_
      rw [← List.append_assoc, ← List.append_assoc]
      exact List.Perm.append_right _ List.perm_append_comm
end
mutual
theorem fz_noOwn : ∀ d : D, noOwn (fz d) = true
  | .non => rfl
  | .bl _ => rfl
  | .int _ => rfl
  | .str _ => rfl
  | .lst _ xs => by simp [fz, noOwn, fzs_noOwn xs]
  | .tup xs => by simp [fz, noOwn, fzs_noOwn xs]
  | .wl xs => by simp [fz, noOwn, fzs_noOwn xs]
  | .dK _ _ xs => by simp [fz, noOwn, fzs_noOwn xs]
  | .dT _ _ xs => by simp [fz, noOwn, fzs_noOwn xs]
theorem fzs_noOwn : ∀ ds : List D, noOwns (fzs ds) = true
  | [] => rfl
  | d :: ds => by simp [fzs, noOwns, fz_noOwn d, fzs_noOwn ds]
end
mutual
theorem fz_of_noOwn : ∀ d : D, noOwn d = true → fz d = d
  | .non, _ => rfl
  | .bl _, _ => rfl
  | .int _, _ => rfl
  | .str _, _ => rfl
  | .lst o xs, h => by
    simp only [noOwn, Bool.and_eq_true, Bool.not_eq_true'] at h
    simp [fz, h.1, fzs_of_noOwn xs h.2]
  | .tup xs, h => by
    simp only [noOwn] at h
    simp [fz, fzs_of_noOwn xs h]
  | .wl xs, h => by
    simp only [noOwn] at h
    simp [fz, fzs_of_noOwn xs h]
  | .dK o _ xs, h => by
    simp only [noOwn, Bool.and_eq_true, Bool.not_eq_true'] at h
    simp [fz, h.1, fzs_of_noOwn xs h.2]
  | .dT o _ xs, h => by
    simp only [noOwn, Bool.and_eq_true, Bool.not_eq_true'] at h
    simp [fz, h.1, fzs_of_noOwn xs h.2]
theorem fzs_of_noOwn : ∀ ds : List D, noOwns ds = true → fzs ds = ds
  | [], _ => rfl
  | d :: ds, h => by
    simp only [noOwns, Bool.and_eq_true] at h
    simp [fzs, fz_of_noOwn d h.1, fzs_of_noOwn ds h.2]
end
end VL
/-! VL 2: states, meanings, judgements, lifting -/
namespace VL
open PySem PySem.Spec L2

abbrev Sl := List (Option D)
def RO (K : Frag) (H : Hp) (L : List Addr) (x : Option D) (v : Option V) (O : List Addr) : Prop :=
  match x with
  | none => O = []
  | some d => ∃ u, v = some u ∧ Rp K H L d u O
def RSl (K : Frag) (H : Hp) (L : List Addr) : Sl → St → List Addr → Prop
  | [], σ, O => σ = [] ∧ O = []
  | x :: s, σ, O => ∃ v σ' O1 O2, σ = v :: σ' ∧ O = O1 ++ O2 ∧ RO K H L x v O1 ∧ RSl K H L s σ' O2
section
variable {K : Frag} {H H' : Hp} {L L' : List Addr}
theorem RO.anti (h : ∀ a ∈ L', a ∈ L) {x : Option D} {v : Option V} {O : List Addr} (r : RO K H L x v O) : RO K H L' x v O := by
  cases x with
  | none => exact r
  | some d => obtain ⟨u, e, q⟩ := r; exact ⟨u, e, q.anti h⟩
theorem RO.own {x : Option D} {v : Option V} {O : List Addr} (r : RO K H L x v O) : ∀ a ∈ O, OwnO (H a) := by
  cases x with
  | none => have e : O = [] := r; subst e; simp
  | some d => obtain ⟨u, e, q⟩ := r; exact q.own
theorem RO.mv {M : List Addr} (m : Mv H H' M L L') {x : Option D} {v : Option V} {O : List Addr} (r : RO K H L x v O) (n : ∀ a ∈ O, a ∉ M) : RO K H' L' x v O := by
  cases x with
  | none => exact r
  | some d => obtain ⟨u, e, q⟩ := r; exact ⟨u, e, q.mv m n⟩
theorem RSl.anti (h : ∀ a ∈ L', a ∈ L) : ∀ {s : Sl} {σ : St} {O : List Addr}, RSl K H L s σ O → RSl K H L' s σ O
  | [], _, _, r => r
  | _ :: _, _, _, r => by
    obtain ⟨v, σ', O1, O2, rfl, rfl, e3, e4⟩ := r
    exact ⟨v, σ', O1, O2, rfl, rfl, e3.anti h, RSl.anti h e4⟩
theorem RSl.own : ∀ {s : Sl} {σ : St} {O : List Addr}, RSl K H L s σ O → ∀ a ∈ O, OwnO (H a)
  | [], _, _, r => by obtain ⟨_, rfl⟩ := r; simp
  | _ :: _, _, _, r => by
    obtain ⟨v, σ', O1, O2, rfl, rfl, e3, e4⟩ := r
    intro b hb
    rcases List.mem_append.mp hb with hb | hb
    · exact e3.own b hb
    · exact RSl.own e4 b hb
theorem RSl.mv {M : List Addr} (m : Mv H H' M L L') : ∀ {s : Sl} {σ : St} {O : List Addr}, RSl K H L s σ O → (∀ a ∈ O, a ∉ M) → RSl K H' L' s σ O
  | [], _, _, r, _ => r
  | _ :: _, _, _, r, n => by
    obtain ⟨v, σ', O1, O2, rfl, rfl, e3, e4⟩ := r
    exact ⟨v, σ', O1, O2, rfl, rfl, e3.mv m (fun a h => n a (List.mem_append_left _ h)), RSl.mv m e4 (fun a h => n a (List.mem_append_right _ h))⟩
theorem RSl.length : ∀ {s : Sl} {σ : St} {O : List Addr}, RSl K H L s σ O → s.length = σ.length
  | [], _, _, r => by simp [r.1]
  | _ :: _, _, _, r => by
    obtain ⟨v, σ', O1, O2, rfl, rfl, e3, e4⟩ := r
    simp [RSl.length e4]
theorem RSl.append : ∀ {s t : Sl} {σ τ : St} {O U : List Addr}, RSl K H L s σ O → RSl K H L t τ U → RSl K H L (s ++ t) (σ ++ τ) (O ++ U)
  | [], _, _, _, _, _, r, q => by
    obtain ⟨rfl, rfl⟩ := r
    exact q
  | _ :: _, _, _, _, _, _, r, q => by
    obtain ⟨v, σ', O1, O2, rfl, rfl, e3, e4⟩ := r
    exact ⟨v, _, O1, _, rfl, by simp, e3, RSl.append e4 q⟩
theorem RSl.nones : ∀ (n : Nat) (σ : St), σ.length = n → RSl K H L (List.replicate n none) σ []
  | 0, σ, h => ⟨by simpa using h, rfl⟩
  | n + 1, [], h => by simp at h
  | n + 1, v :: σ, h => ⟨v, σ, [], [], rfl, rfl, rfl, RSl.nones n σ (by simpa using h)⟩
theorem RSl.of_Rps : ∀ {ds : List D} {vs : List V} {T : List Addr}, Rps K H L ds vs T → RSl K H L (ds.map some) (vs.map some) T
  | [], _, _, r => by obtain ⟨rfl, rfl⟩ := r; exact ⟨rfl, rfl⟩
  | _ :: _, _, _, r => by
    obtain ⟨v, vs', T1, T2, rfl, rfl, e3, e4⟩ := r
    exact ⟨some v, _, T1, T2, rfl, rfl, ⟨v, rfl, e3⟩, RSl.of_Rps e4⟩
theorem RO.map {x : Option D} {v : Option V} {O : List Addr} (r : RO K H L x v O) (tr : ∀ d u T, (∀ a ∈ T, a ∈ O) → Rp K H L d u T → Rp K H' L' d u T) : RO K H' L' x v O := by
  cases x with
  | none => exact r
  | some d => obtain ⟨u, e, q⟩ := r; exact ⟨u, e, tr d u O (fun _ h => h) q⟩
theorem RSl.map : ∀ {s : Sl} {σ : St} {O : List Addr}, RSl K H L s σ O → (∀ d u T, (∀ a ∈ T, a ∈ O) → Rp K H L d u T → Rp K H' L' d u T) → RSl K H' L' s σ O
  | [], _, _, r, _ => r
  | _ :: _, _, _, r, tr => by
    obtain ⟨v, σ', O1, O2, rfl, rfl, e3, e4⟩ := r
    exact ⟨v, σ', O1, O2, rfl, rfl, e3.map fun d u T h => tr d u T fun a z => List.mem_append_left _ (h a z), RSl.map e4 fun d u T h => tr d u T fun a z => List.mem_append_right _ (h a z)⟩
theorem perm_mid {A B C : List Addr} : (A ++ (B ++ C)).Perm (B ++ (A ++ C)) := by
  rw [← List.append_assoc, ← List.append_assoc]
  exact List.Perm.append_right _ List.perm_append_comm
/-- the part at slot i out, another in; the rest moves along -/
theorem RSl.swap : ∀ {s : Sl} {σ : St} {O : List Addr} {i : Nat} {x : Option D}, RSl K H L s σ O → s[i]? = some x →
    ∃ v O1 O2, σ[i]? = some v ∧ RO K H L x v O1 ∧ O.Perm (O1 ++ O2) ∧ ∀ {H' : Hp} {L' : List Addr} {y : Option D} {w : Option V} {U : List Addr},
      (∀ d u T, (∀ a ∈ T, a ∈ O2) → Rp K H L d u T → Rp K H' L' d u T) → RO K H' L' y w U → ∃ O3, O3.Perm (U ++ O2) ∧ RSl K H' L' (s.set i y) (σ.set i w) O3
  | [], _, _, _, _, _, e => by simp at e
  | x0 :: _, _, _, 0, x, r, e => by
    obtain ⟨v, σ', O1, O2, rfl, rfl, e3, e4⟩ := r
    have : x0 = x := by simpa using e
    subst this
    exact ⟨v, O1, O2, rfl, e3, .refl _, fun {H' L' y w U} tr q => ⟨U ++ O2, .refl _, ⟨w, σ', U, O2, rfl, rfl, q, RSl.map e4 tr⟩⟩⟩
  | _ :: _, _, _, i + 1, x, r, e => by
    obtain ⟨v, σ', O1, O2, rfl, rfl, e3, e4⟩ := r
    obtain ⟨w, A, B, h1, h2, h3, h4⟩ := RSl.swap (i := i) (x := x) e4 (by simpa using e)
    refine ⟨w, A, O1 ++ B, by simpa using h1, h2, (List.Perm.append_left O1 h3).trans perm_mid, fun {H' L' y z U} tr q => ?_⟩
    obtain ⟨T3, p, q'⟩ := h4 (fun d u T h => tr d u T fun a m => List.mem_append_right _ (h a m)) q
    exact ⟨O1 ++ T3, (List.Perm.append_left O1 p).trans perm_mid, ⟨v, _, O1, T3, by simp, rfl, e3.map fun d u T h => tr d u T fun a m => List.mem_append_left _ (h a m), q'⟩⟩
end

/-- the frame's slots and what they own (O), what others own (F), slots that stay (J) -/
structure Own (K : Frag) (J : List (Nat × V)) (H : Hp) (s : Sl) (σ : St) (O F : List Addr) : Prop where
  rep : RSl K H (O ++ F) s σ O
  nd : (O ++ F).Nodup
  fr : ∀ a ∈ F, OwnO (H a)
  pin : ∀ p ∈ J, σ[p.1]? = some (some p.2)
section
variable {K : Frag} {J : List (Nat × V)} {H H' : Hp} {s s' : Sl} {σ σ' : St} {O O' F T U : List Addr}
theorem Own.own (o : Own K J H s σ O F) : ∀ a ∈ O ++ F, OwnO (H a) := fun a h => by
  rcases List.mem_append.mp h with h | h
  · exact o.rep.own a h
  · exact o.fr a h
theorem OwnO.some {o : Option HO} (h : OwnO o) : ∃ u, o = some u := by
  cases o with
  | none => cases h
  | some u => exact ⟨u, rfl⟩
theorem nd_mid {A B C : List Addr} (h : (A ++ (B ++ C)).Nodup) : (A ++ C).Nodup := by
  refine h.sublist ?_
  exact List.Sublist.append (List.Sublist.refl _) (List.sublist_append_right _ _)
/-- temporaries forgotten -/
theorem Own.drop (o : Own K J H s σ O (T ++ F)) : Own K J H s σ O F :=
  ⟨o.rep.anti (by intro a; simp only [List.mem_append]; rintro (h | h); exact .inl h; exact .inr (.inr h)), nd_mid o.nd, fun a h => o.fr a (List.mem_append_right _ h), o.pin⟩
/-- a part of the owned ones is forgotten (as sets) -/
theorem Own.perm (o : Own K J H s σ O F) (hp : O'.Perm O) (r : RSl K H (O' ++ F) s σ O') : Own K J H s σ O' F :=
  ⟨r, (hp.append_right F).nodup_iff.mpr o.nd, o.fr, o.pin⟩
end

/-! ### results -/
structure Exc where
  cls : Str
  fs : List (Str × D)
inductive R (α : Type) where
  | ok (a : α) (s : Sl) (e : Bool)
  | exc (x : Exc) (s : Sl)
  | bad
abbrev Val := Bool × D
abbrev M (α : Type) := Sl → R α
def R.bind {α β : Type} (r : R α) (f : α → Sl → Bool → R β) : R β := match r with
  | .ok a s e => f a s e
  | .exc x s => .exc x s
  | .bad => .bad
/-- a step: e tells whether what the frame owned may have changed (or has become a temporary) -/
structure Stp (e : Bool) (H H' : Hp) (O T O' : List Addr) : Prop where
  keep : ∀ a u, H a = some u → (e = true → a ∉ O) → H' a = some u
  newT : ∀ a ∈ T, (e = true ∧ a ∈ O) ∨ H a = none
  newO : ∀ a ∈ O', a ∈ O ∨ H a = none
theorem Stp.refl {e : Bool} {H : Hp} {O : List Addr} : Stp e H H O [] O := ⟨fun _ _ h _ => h, by simp, fun a h => .inl h⟩
theorem Stp.free {e : Bool} {H H' : Hp} {O T O' : List Addr} (p : Stp e H H' O T O') {a : Addr} (h : H' a = none) (n : a ∉ O) : H a = none := by
  cases q : H a with
  | none => rfl
  | some u => rw [p.keep a u q fun _ => n] at h; cases h
theorem Stp.trans {e1 e2 : Bool} {H H1 H2 : Hp} {O T1 O1 T2 O2 : List Addr} (p : Stp e1 H H1 O T1 O1) (q : Stp e2 H1 H2 O1 T2 O2) : Stp (e1 || e2) H H2 O (T1 ++ T2) O2 where
  keep := fun a u h n => by
    refine q.keep a u (p.keep a u h fun z => n (by simp [z])) fun z => fun hm => ?_
    rcases p.newO a hm with y | y
    · exact n (by simp [z]) y
    · rw [h] at y; cases y
  newT := fun a h => by
    rcases List.mem_append.mp h with h | h
    · rcases p.newT a h with ⟨y, z⟩ | y
      · exact .inl ⟨by simp [y], z⟩
      · exact .inr y
    · rcases q.newT a h with ⟨y, z⟩ | y
      · rcases p.newO a z with k | k
        · exact .inl ⟨by simp [y], k⟩
        · exact .inr k
      · cases k : H a with
        | none => exact .inr rfl
        | some u =>
          by_cases m : e1 = true ∧ a ∈ O
          · exact .inl ⟨by simp [m.1], m.2⟩
          · rw [p.keep a u k fun z y => m ⟨z, y⟩] at y; cases y
  newO := fun a h => by
    rcases q.newO a h with z | y
    · exact p.newO a z
    · by_cases m : a ∈ O
      · exact .inl m
      · exact .inr (p.free y m)
theorem Stp.mono {e e' : Bool} {H H' : Hp} {O T O' : List Addr} (p : Stp e H H' O T O') (h : e = true → e' = true) : Stp e' H H' O T O' :=
  ⟨fun a u q n => p.keep a u q fun z => n (h z), fun a q => (p.newT a q).imp (fun z => ⟨h z.1, z.2⟩) fun z => z, p.newO⟩
theorem Stp.sub {e : Bool} {H H' : Hp} {O T T' O' O'' : List Addr} (p : Stp e H H' O T O') (h : ∀ a ∈ T', a ∈ T) (h' : ∀ a ∈ O'', a ∈ O') : Stp e H H' O T' O'' :=
  ⟨p.keep, fun a q => p.newT a (h a q), fun a q => p.newO a (h' a q)⟩
/-- what else is there moves along: L = T ++ O ++ F before, L' = T' ++ O' ++ F behind, with T in the rest -/
theorem Stp.mv {e : Bool} {H H' : Hp} {O F T O' : List Addr} (p : Stp e H H' O T O') (own : ∀ a ∈ O ++ F, OwnO (H a)) {L L' : List Addr} (hL : ∀ a ∈ O, a ∈ L) (hL' : ∀ a ∈ L', a ∈ L ∨ a ∈ T ∨ a ∈ O') : Mv H H' (if e = true then O else []) L L' where
  keep := fun a u h n => p.keep a u h fun z => by simpa [z] using n
  own := fun a h => by
    by_cases z : e = true
    · rw [if_pos z] at h; exact own a (List.mem_append_left _ h)
    · rw [if_neg z] at h; cases h
  inL := fun a h => by
    by_cases z : e = true
    · rw [if_pos z] at h; exact hL a h
    · rw [if_neg z] at h; cases h
  new := fun a h => by
    rcases hL' a h with z | z | z
    · exact .inl z
    · rcases p.newT a z with ⟨_, y⟩ | y
      · exact .inl (hL a y)
      · exact .inr y
    · rcases p.newO a z with y | y
      · exact .inl (hL a y)
      · exact .inr y

/-! ### contexts -/
structure Ctx where
  P : Program
  w : World
  K : Frag
  mg : Str → Option Value
  base : Heap
  N : List Str
  scope : Scope
  fn : Str → Bool
  calm : Bool
  top : Bool
  k : Nat
structure InC (c : Ctx) (X : Cx) : Prop where
  prog : X.prog = c.P
  w : X.w = c.w
  K : X.K = c.K
  mg : X.mg = c.mg
  base : X.base = c.base
  N : X.N = c.N
  scope : X.env.scope = c.scope
  calm : X.calm = c.calm
  fn : ∀ x, c.fn x = true → X.fn x = true
  room : Room c.k X.A
  gd : X.A.guards = some []
  top : c.top = true → X.stack = X.env :: X.outer ∧ X.env.frame = some X.env.locals ∧ PassesOwn (model X.prog X.w) X.A X.env X.xe

/-- an exception as it lies in the heap -/
def XRp (K : Frag) (mg : Str → Option Value) (H : Hp) (L : List Addr) (x : Exc) (cls : Value) (d : Option Addr) : Prop :=
  ∃ C, mg x.cls = some (.ref C) ∧ cls = .ref C ∧ ((x.fs = [] ∧ d = none) ∨ ∃ a vs, d = some a ∧ H a = some (.xd ((x.fs.map (·.1)).zip vs)) ∧ Rps K H L (x.fs.map (·.2)) vs [])

/-- what a strict | loose value avoids -/
def av (b : Bool) (O F : List Addr) : List Addr := (if b = true then O else []) ++ F
theorem mem_av {b : Bool} {O F : List Addr} {a : Addr} : a ∈ av b O F ↔ (b = true ∧ a ∈ O) ∨ a ∈ F := by
  unfold av
  cases b <;> simp
def XP (c : Ctx) (J : List (Nat × V)) (W : WX) (H : Hp) (σ : St) (O F : List Addr) (x : Exc) (s' : Sl) : Prop :=
  ∀ cls dx H' O', XRp c.K c.mg H' (O' ++ F) x cls dx → Own c.K J H' s' σ O' F → Stp true H H' O [] O' → W cls dx σ H'
def PostE (c : Ctx) (J : List (Nat × V)) (W : WX) (H : Hp) (σ : St) (O F : List Addr) (Q : VK) : R Val → Prop
  | .ok (b, d) s' e => ∀ v H' T O', Rp c.K H' (T ++ av b O' F) d v T → Own c.K J H' s' σ O' (T ++ F) → Stp e H H' O T O' → Q v H'
  | .exc x s' => XP c J W H σ O F x s'
  | .bad => False
def PostA (c : Ctx) (J : List (Nat × V)) (W : WX) (H : Hp) (σ : St) (O F : List Addr) (Q : List V → Hp → Prop) : R (Bool × List D) → Prop
  | .ok (b, ds) s' e => ∀ vs H' T O', Rps c.K H' (T ++ av b O' F) ds vs T → Own c.K J H' s' σ O' (T ++ F) → Stp e H H' O T O' → Q vs H'
  | .exc x s' => XP c J W H σ O F x s'
  | .bad => False
def PostT (c : Ctx) (J : List (Nat × V)) (W : WX) (H : Hp) (σ : St) (O F : List Addr) (Q : Bool → Hp → Prop) : R Bool → Prop
  | .ok b s' e => ∀ H' O', Own c.K J H' s' σ O' F → Stp e H H' O [] O' → Q b H'
  | .exc x s' => XP c J W H σ O F x s'
  | .bad => False
def SndE (c : Ctx) (J : List (Nat × V)) (te : WX → TE) (m : M Val) : Prop := ∀ W s σ H O F Q, Own c.K J H s σ O F → PostE c J W H σ O F Q (m s) → te W σ H Q
def SndA (c : Ctx) (J : List (Nat × V)) (te : WX → TA) (m : M (Bool × List D)) : Prop := ∀ W s σ H O F Q, Own c.K J H s σ O F → PostA c J W H σ O F Q (m s) → te W σ H Q
def SndT (c : Ctx) (J : List (Nat × V)) (te : WX → TT) (m : M Bool) : Prop := ∀ W s σ H O F Q, Own c.K J H s σ O F → PostT c J W H σ O F Q (m s) → te W σ H Q
def SE (c : Ctx) (J : List (Nat × V)) (e : Expr) (m : M Val) : Prop := ∃ te : WX → TE, (∀ W X, InC c X → Takes X W → PE X e (te W)) ∧ SndE c J te m
def SA (c : Ctx) (J : List (Nat × V)) (es : List Expr) (m : M (Bool × List D)) : Prop := ∃ ta : WX → TA, (∀ W X, InC c X → Takes X W → PA X es (ta W)) ∧ SndA c J ta m
def STs (c : Ctx) (J : List (Nat × V)) (e : Expr) (m : M Bool) : Prop := ∃ tt : WX → TT, (∀ W X, InC c X → Takes X W → PT X e (tt W)) ∧ SndT c J tt m
def SW (c : Ctx) (J : List (Nat × V)) (e : Expr) (m : M Bool) : Prop := ∃ tt : WX → TT, (∀ W X, InC c X → Takes X W → PW X e (tt W)) ∧ SndT c J tt m

section
variable {c : Ctx} {J : List (Nat × V)}

/-! ### constants and names -/
def xC (d : D) : M Val := fun s => .ok (true, d) s false
theorem post_const {W : WX} {H : Hp} {σ : St} {O F : List Addr} {Q : VK} {s : Sl} {d : D} {v : V} (o : Own c.K J H s σ O F) (r : ∀ L, Rp c.K H L d v []) (q : PostE c J W H σ O F Q (xC d s)) : Q v H :=
  q v H [] O (by simpa using r _) (by simpa using o) Stp.refl
theorem se_int {i j pos} : SE c J (.Constant (.int i) j pos) (xC (.int i)) :=
  ⟨fun _ => tC (.int i), fun _ _ _ _ => pe_int, fun _ _ _ _ _ _ _ o q => post_const (d := .int i) o (fun _ => ⟨rfl, rfl⟩) q⟩
theorem se_bl {b j pos} : SE c J (.Constant (.bool b) j pos) (xC (.bl b)) :=
  ⟨fun _ => tC (.bl b), fun _ _ _ _ => pe_bl, fun _ _ _ _ _ _ _ o q => post_const (d := .bl b) o (fun _ => ⟨rfl, rfl⟩) q⟩
theorem se_non {j pos} : SE c J (.Constant .none j pos) (xC .non) :=
  ⟨fun _ => tC .non, fun _ _ _ _ => pe_non, fun _ _ _ _ _ _ _ o q => post_const (d := .non) o (fun _ => ⟨rfl, rfl⟩) q⟩
theorem se_str {x j pos} : SE c J (.Constant (.str x) j pos) (xC (.str x)) :=
  ⟨fun _ => tC (.str x), fun _ _ _ _ => pe_str, fun _ _ _ _ _ _ _ o q => post_const (d := .str x) o (fun _ => ⟨rfl, rfl⟩) q⟩
/-- a name, looked at -/
def xN (i : Nat) : M Val := fun s => match s[i]? with
  | some (some d) => .ok (noOwn d, fz d) s false
  | _ => .bad
theorem own_get {K : Frag} {H : Hp} {s : Sl} {σ : St} {O F : List Addr} {i : Nat} {d : D} (o : Own K J H s σ O F) (e : s[i]? = some (some d)) :
    ∃ v O1 O2, σ[i]? = some (some v) ∧ Rp K H (O ++ F) d v O1 ∧ O.Perm (O1 ++ O2) := by
  obtain ⟨v, O1, O2, h1, ⟨u, rfl, h2⟩, h3, h4⟩ := o.rep.swap e
  exact ⟨u, O1, O2, h1, h2, h3⟩
theorem se_name (i : Nat) {x : Str} {pos : Pos} (hN : c.N[i]? = some x := by rfl) (hv : Vis c.scope x := by first | exact Or.inl rfl | exact Or.inr (Or.inl rfl) | exact Or.inr (Or.inr rfl))
    (hd : (x == ("__debug__" : Str)) = false := by decide) (hcd : (x == ("__classdict__" : Str)) = false := by decide) : SE c J (.Name x pos) (xN i) := by
  refine ⟨fun _ => tVar i, fun W X hX _ => pe_var (by rw [hX.N]; exact hN) (by rw [hX.scope]; exact hv) hd hcd, fun W s σ H O F Q o q => ?_⟩
  unfold xN at q
  split at q
  · rename_i d e
    obtain ⟨v, O1, O2, h1, h2, h3⟩ := own_get o e
    refine ⟨v, h1, q v H [] O ?_ (by simpa using o) Stp.refl⟩
    have hnd : (O1 ++ (O2 ++ F)).Nodup := by
      have := (h3.append_right F).nodup_iff.mp o.nd
      rwa [List.append_assoc] at this
    refine h2.fz fun a ha => ?_
    rcases mem_av.mp (by simpa using ha) with ⟨n, z⟩ | z
    · have e1 := h2.free n
      subst e1
      exact ⟨List.mem_append_left _ z, by simp⟩
    · exact ⟨List.mem_append_right _ z, fun y => (List.nodup_append.mp hnd).2.2 a y a (List.mem_append_right _ z) rfl⟩
  · exact q.elim
/-- a name handed on: it and the slot are frozen -/
def xS (i : Nat) : M Val := fun s => match s[i]? with
  | some (some d) => .ok (true, fz d) (s.set i (some (fz d))) true
  | _ => .bad
theorem set_same {σ : St} {i : Nat} {v : Option V} (h : σ[i]? = some v) : σ.set i v = σ := by
  apply List.ext_getElem?
  intro j
  by_cases e : i = j
  · subst e
    have hl : i < σ.length := (List.getElem?_eq_some_iff.mp h).1
    rw [List.getElem?_set_self hl, h]
  · rw [List.getElem?_set_ne e]
/-- slot i gets another part; what changed was owned by it -/
theorem Own.set {K : Frag} {H : Hp} {s : Sl} {σ : St} {O F : List Addr} {i : Nat} {x : Option D} (o : Own K J H s σ O F) (e : s[i]? = some x) :
    ∃ v O1 O2, σ[i]? = some v ∧ RO K H (O ++ F) x v O1 ∧ O.Perm (O1 ++ O2) ∧ ∀ {H' : Hp} {F' : List Addr} {y : Option D} {w : Option V} {U : List Addr},
      (∀ a u, H a = some u → a ∉ O1 → H' a = some u) → (∀ a ∈ U, a ∈ O1 ∨ a ∈ F ∨ H a = none) → (∀ a ∈ F', a ∈ O1 ∨ a ∈ F ∨ H a = none) → (U ++ (O2 ++ F')).Nodup → (∀ a ∈ F', OwnO (H' a)) →
      (∀ L', (∀ a ∈ L', a ∈ U ++ (O2 ++ F')) → RO K H' L' y w U) → (∀ p ∈ J, p.1 = i → w = some p.2) →
      ∃ O3, O3.Perm (U ++ O2) ∧ Own K J H' (s.set i y) (σ.set i w) O3 F' := by
  obtain ⟨v, O1, O2, h1, h2, h3, h4⟩ := o.rep.swap e
  refine ⟨v, O1, O2, h1, h2, h3, fun {H' F' y w U} kp hU hF nd fr ry hp => ?_⟩
  have hnd : (O1 ++ (O2 ++ F)).Nodup := by
    have := (h3.append_right F).nodup_iff.mp o.nd
    rwa [List.append_assoc] at this
  have m : Mv H H' O1 (O ++ F) (U ++ (O2 ++ F')) := by
    refine ⟨kp, fun a ha => o.own a (List.mem_append_left _ (h3.symm.subset (List.mem_append_left _ ha))), fun a ha => List.mem_append_left _ (h3.symm.subset (List.mem_append_left _ ha)), fun a ha => ?_⟩
    have inO1 : a ∈ O1 → a ∈ O ++ F := fun z => List.mem_append_left _ (h3.symm.subset (List.mem_append_left _ z))
    rcases List.mem_append.mp ha with ha | ha
    · rcases hU a ha with z | z | z
      · exact .inl (inO1 z)
      · exact .inl (List.mem_append_right _ z)
      · exact .inr z
    · rcases List.mem_append.mp ha with ha | ha
      · exact .inl (List.mem_append_left _ (h3.symm.subset (List.mem_append_right _ ha)))
      · rcases hF a ha with z | z | z
        · exact .inl (inO1 z)
        · exact .inl (List.mem_append_right _ z)
        · exact .inr z
  obtain ⟨O3, p3, r3⟩ := h4 (H' := H') (L' := U ++ (O2 ++ F')) (y := y) (w := w) (U := U) (fun d u T hT r => r.mv m fun a ha z => (List.nodup_append.mp hnd).2.2 a z a (List.mem_append_left _ (hT a ha)) rfl) (ry _ fun _ z => z)
  · refine ⟨O3, p3, r3.anti fun a ha => ?_, ?_, fr, fun p hpj => ?_⟩
    · rcases List.mem_append.mp ha with ha | ha
      · rw [← List.append_assoc]
        exact List.mem_append_left _ (p3.subset ha)
      · exact List.mem_append_right _ (List.mem_append_right _ ha)
    · refine (p3.append_right F').nodup_iff.mpr ?_
      rw [List.append_assoc]
      exact nd
    · by_cases hi : i = p.1
      · have hl : i < σ.length := (List.getElem?_eq_some_iff.mp h1).1
        subst hi
        rw [List.getElem?_set_self hl, hp p hpj rfl]
      · rw [List.getElem?_set_ne hi]
        exact o.pin p hpj
theorem nd_comm {A B C : List Addr} (h : (A ++ (B ++ C)).Nodup) : (B ++ (A ++ C)).Nodup := perm_mid.nodup_iff.mp h
theorem se_share (i : Nat) {x : Str} {pos : Pos} (hN : c.N[i]? = some x := by rfl) (hv : Vis c.scope x := by first | exact Or.inl rfl | exact Or.inr (Or.inl rfl) | exact Or.inr (Or.inr rfl))
    (hd : (x == ("__debug__" : Str)) = false := by decide) (hcd : (x == ("__classdict__" : Str)) = false := by decide) : SE c J (.Name x pos) (xS i) := by
  refine ⟨fun _ => tVar i, fun W X hX _ => pe_var (by rw [hX.N]; exact hN) (by rw [hX.scope]; exact hv) hd hcd, fun W s σ H O F Q o q => ?_⟩
  unfold xS at q
  split at q
  · rename_i d e
    obtain ⟨v, O1, O2, h1, ⟨u, rfl, h2⟩, h3, h4⟩ := o.set e
    have hnd : (O1 ++ (O2 ++ F)).Nodup := by
      have := (h3.append_right F).nodup_iff.mp o.nd
      rwa [List.append_assoc] at this
    have r0 : ∀ L', (∀ a ∈ L', a ∈ O2 ++ F) → Rp c.K H L' (fz d) u [] := fun L' hL => h2.fz fun a ha => by
      have ha := hL a ha
      refine ⟨?_, fun z => (List.nodup_append.mp hnd).2.2 a z a ha rfl⟩
      rcases List.mem_append.mp ha with ha | ha
      · exact List.mem_append_left _ (h3.symm.subset (List.mem_append_right _ ha))
      · exact List.mem_append_right _ ha
    obtain ⟨O3, p3, o3⟩ := h4 (H' := H) (F' := F) (y := some (fz d)) (w := some u) (U := []) (fun _ _ h _ => h) (by simp) (fun a h => .inr (.inl h)) (by simpa using (List.nodup_append.mp hnd).2.1) o.fr
      (fun L' hL => ⟨u, rfl, r0 L' (by simpa using hL)⟩) (fun p hp hi => by have := o.pin p hp; rw [hi, h1] at this; exact Option.some.inj this)
    rw [set_same h1] at o3
    have p3' : O3.Perm O2 := by simpa using p3
    refine ⟨u, h1, q u H [] O3 ?_ (by simpa using o3) ⟨fun _ _ h _ => h, by simp, fun a ha => .inl (h3.symm.subset (List.mem_append_right _ (p3'.subset ha)))⟩⟩
    refine r0 _ fun a ha => ?_
    simp only [av, if_true, List.nil_append] at ha
    exact (p3'.append_right F).subset ha
  · exact q.elim
/-- a name's thing moved out of its slot -/
def xMv (i : Nat) : M Val := fun s => match s[i]? with
  | some (some d) => .ok (true, d) (s.set i none) true
  | _ => .bad
theorem se_move (i : Nat) {x : Str} {pos : Pos} (hN : c.N[i]? = some x := by rfl) (hv : Vis c.scope x := by first | exact Or.inl rfl | exact Or.inr (Or.inl rfl) | exact Or.inr (Or.inr rfl))
    (hd : (x == ("__debug__" : Str)) = false := by decide) (hcd : (x == ("__classdict__" : Str)) = false := by decide) : SE c J (.Name x pos) (xMv i) := by
  refine ⟨fun _ => tVar i, fun W X hX _ => pe_var (by rw [hX.N]; exact hN) (by rw [hX.scope]; exact hv) hd hcd, fun W s σ H O F Q o q => ?_⟩
  unfold xMv at q
  split at q
  · rename_i d e
    obtain ⟨v, O1, O2, h1, ⟨u, rfl, h2⟩, h3, h4⟩ := o.set e
    have hnd : (O1 ++ (O2 ++ F)).Nodup := by
      have := (h3.append_right F).nodup_iff.mp o.nd
      rwa [List.append_assoc] at this
    obtain ⟨O3, p3, o3⟩ := h4 (H' := H) (F' := O1 ++ F) (y := none) (w := some u) (U := []) (fun _ _ h _ => h) (by simp) (fun a h => (List.mem_append.mp h).imp (fun z => z) .inl) (by simpa using nd_comm hnd)
      (fun a h => (List.mem_append.mp h).elim (fun z => h2.own a z) (o.fr a)) (fun L' hL => rfl) (fun p hp hi => by have := o.pin p hp; rw [hi, h1] at this; exact Option.some.inj this)
    rw [set_same h1] at o3
    have p3' : O3.Perm O2 := by simpa using p3
    refine ⟨u, h1, q u H O1 O3 ?_ o3 ⟨fun _ _ h _ => h, fun a ha => .inl ⟨rfl, h3.symm.subset (List.mem_append_left _ ha)⟩, fun a ha => .inl (h3.symm.subset (List.mem_append_right _ (p3'.subset ha)))⟩⟩
    refine h2.anti fun a ha => ?_
    simp only [av, if_true, List.mem_append] at ha ⊢
    rcases ha with ha | ha | ha
    · exact .inl (h3.symm.subset (List.mem_append_left _ ha))
    · exact .inl (h3.symm.subset (List.mem_append_right _ (p3'.subset ha)))
    · exact .inr ha
  · exact q.elim
end
end VL
/-! VL 3: arguments, operations by values, tests -/
namespace VL
open PySem PySem.Spec L2
section
variable {c : Ctx} {J : List (Nat × V)}

/-- a temporary is carried over a step -/
theorem carry {K : Frag} {b e : Bool} {d : D} {v : V} {s1 : Sl} {σ : St} {H1 H2 : Hp} {T1 O1 F T2 O2 : List Addr} (o1 : Own K J H1 s1 σ O1 (T1 ++ F)) (r : Rp K H1 (T1 ++ av b O1 F) d v T1) (p : Stp e H1 H2 O1 T2 O2)
    (h : (b || noFz d || !e) = true) {L' : List Addr} (hL : ∀ a ∈ L', a ∈ T1 ∨ a ∈ F ∨ a ∈ T2 ∨ (a ∈ O2 ∧ (b || noFz d) = true)) : Rp K H2 L' d v T1 := by
  have nT : ∀ a ∈ T1, a ∉ O1 := fun a h1 h2 => (List.nodup_append.mp o1.nd).2.2 a h2 a (List.mem_append_left _ h1) rfl
  by_cases hb : (b || noFz d) = true
  · have r' : Rp K H1 (T1 ++ (O1 ++ F)) d v T1 := by
      cases b with
      | true => exact r.anti (by intro a; simp [av])
      | false => exact Rp.loose (by simpa using hb) r
    refine r'.mv (p.mv (F := T1 ++ F) o1.own (by intro a z; simp [z]) (L' := L') fun a ha => ?_) fun a ha hm => ?_
    · rcases hL a ha with z | z | z | z
      · exact .inl (by simp [z])
      · exact .inl (by simp [z])
      · exact .inr (.inl z)
      · exact .inr (.inr z.1)
    · by_cases z : e = true
      · rw [if_pos z] at hm; exact nT a ha hm
      · rw [if_neg z] at hm; cases hm
  · have he : e = false := by
      cases e with
      | false => rfl
      | true => simp at h hb; simp [hb] at h
    have hb' : b = false := by cases b <;> simp_all
    subst he hb'
    refine r.mv (M := []) ⟨fun a u q _ => p.keep a u q (by simp), by simp, by simp, fun a ha => ?_⟩ (by simp)
    rcases hL a ha with z | z | z | z
    · exact .inl (by simp [z])
    · exact .inl (by simp [av, z])
    · rcases p.newT a z with y | y
      · cases y.1
      · exact .inr y
    · exact absurd z.2 hb
theorem XRp.anti {K : Frag} {mg : Str → Option Value} {H : Hp} {L L' : List Addr} {x : Exc} {cls : Value} {d : Option Addr} (h : ∀ a ∈ L', a ∈ L) (r : XRp K mg H L x cls d) : XRp K mg H L' x cls d := by
  obtain ⟨C, h1, h2, h3⟩ := r
  refine ⟨C, h1, h2, h3.imp (fun z => z) fun ⟨a, vs, q1, q2, q3⟩ => ⟨a, vs, q1, q2, q3.anti h⟩⟩
theorem XP.after {W : WX} {H H1 : Hp} {σ : St} {O F T1 O1 : List Addr} {e : Bool} {x : Exc} {s' : Sl} (q : XP c J W H σ O F x s') (p : Stp e H H1 O T1 O1) : XP c J W H1 σ O1 (T1 ++ F) x s' := fun cls dx H' O' hx o st =>
  q cls dx H' O' (hx.anti (by intro a; simp only [List.mem_append]; rintro (h | h); exact .inl h; exact .inr (.inr h))) o.drop (((p.trans st).sub (by simp) fun _ z => z).mono fun _ => rfl)

/-! ### arguments -/
def aNil : M (Bool × List D) := fun s => .ok (true, []) s false
def aCons (ma : M Val) (mas : M (Bool × List D)) : M (Bool × List D) := fun s => match ma s with
  | .ok (b1, d) s1 e1 => (match mas s1 with
    | .ok (b2, ds) s2 e2 => if (b1 || noFz d || !e2) = true then .ok ((b1 || noFz d) && b2, d :: ds) s2 (e1 || e2) else .bad
    | .exc x s2 => .exc x s2
    | .bad => .bad)
  | .exc x s1 => .exc x s1
  | .bad => .bad
theorem snd_nil : SndA c J (fun _ => tNil) aNil := fun W s σ H O F Q o q => q [] H [] O ⟨rfl, rfl⟩ (by simpa using o) Stp.refl
theorem snd_cons {ta : WX → TE} {tas : WX → TA} {ma : M Val} {mas : M (Bool × List D)} (ha : SndE c J ta ma) (has : SndA c J tas mas) : SndA c J (fun W => tCons (ta W) (tas W)) (aCons ma mas) := by
  intro W s σ H O F Q o q
  refine ha W s σ H O F _ o ?_
  unfold aCons at q
  cases h1 : ma s with
  | bad => rw [h1] at q; exact q
  | exc x s1 => rw [h1] at q; exact q
  | ok bd s1 e1 =>
    obtain ⟨b1, d⟩ := bd
    rw [h1] at q
    intro v H1 T1 O1 r1 o1 p1
    refine has W s1 σ H1 O1 (T1 ++ F) _ o1 ?_
    simp only [] at q
    cases h2 : mas s1 with
    | bad => rw [h2] at q; exact q
    | exc x s2 => rw [h2] at q; exact XP.after q p1
    | ok bds s2 e2 =>
      obtain ⟨b2, ds⟩ := bds
      rw [h2] at q
      intro vs H2 T2 O2 r2 o2 p2
      simp only [] at q
      by_cases hc : (b1 || noFz d || !e2) = true
      · rw [if_pos hc] at q
        refine q (v :: vs) H2 (T1 ++ T2) O2 ⟨v, vs, T1, T2, rfl, rfl, carry o1 r1 p2 hc fun a ha => ?_, r2.anti fun a ha => ?_⟩ ?_ (p1.trans p2)
        · simp only [List.mem_append, mem_av] at ha
          rcases ha with (z | z) | ⟨k, z⟩ | z
          · exact .inl z
          · exact .inr (.inr (.inl z))
          · exact .inr (.inr (.inr ⟨z, by simp only [Bool.and_eq_true] at k; exact k.1⟩))
          · exact .inr (.inl z)
        · simp only [List.mem_append, mem_av] at ha ⊢
          rcases ha with (z | z) | ⟨k, z⟩ | z
          · exact .inr (.inr (.inl z))
          · exact .inl z
          · exact .inr (.inl ⟨by simp only [Bool.and_eq_true] at k; exact k.2, z⟩)
          · exact .inr (.inr (.inr z))
        · have hp : (T2 ++ (T1 ++ F)).Perm (T1 ++ T2 ++ F) := by rw [List.append_assoc]; exact perm_mid
          refine ⟨o2.rep.anti fun a ha => ?_, ((List.Perm.append_left O2 hp).nodup_iff).mp o2.nd, fun a ha => o2.fr a (hp.symm.subset ha), o2.pin⟩
          rcases List.mem_append.mp ha with z | z
          · exact List.mem_append_left _ z
          · exact List.mem_append_right _ (hp.symm.subset z)
      · rw [if_neg hc] at q
        exact q.elim
theorem sa_nil : SA c J [] aNil := ⟨fun _ => tNil, fun _ _ _ _ => pa_nil, snd_nil⟩
theorem sa_cons {e : Expr} {es : List Expr} {ma : M Val} {mas : M (Bool × List D)} (ha : SE c J e ma) (has : SA c J es mas) (hs : ∀ env : Env, starEach (e :: es) env = (false, eval e env) :: starEach es env := by intro _; rfl) : SA c J (e :: es) (aCons ma mas) := by
  obtain ⟨ta, pa, qa⟩ := ha
  obtain ⟨tas, pas, qas⟩ := has
  exact ⟨_, fun W X hX tk => pa_cons (pa W X hX tk) (pas W X hX tk) (hs _), snd_cons qa qas⟩

/-! ### operations by values -/
/-- the reading r does what f says -/
def OpV (K : Frag) (r : List V → Hp → VK → Prop) (f : List D → Option D) : Prop :=
  ∀ (H : Hp) (T R : List Addr) (ds : List D) (vs : List V) (d : D) (Q : VK), Rps K H (T ++ R) ds vs T → (T ++ R).Nodup → (∀ a ∈ R, H a ≠ none) → f ds = some d →
    (∀ v H' T', Rp K H' (T' ++ R) d v T' → (T' ++ R).Nodup → (∀ a u, H a = some u → H' a = some u) → (∀ a ∈ T', a ∈ T ∨ H a = none) → Q v H') → r vs H Q
def eOp (ma : M (Bool × List D)) (f : List D → Option D) : M Val := fun s => match ma s with
  | .ok (b, ds) s' e => (match f ds with
    | some d => .ok (b || noFz d, d) s' e
    | none => .bad)
  | .exc x s' => .exc x s'
  | .bad => .bad
theorem snd_op {ta : WX → TA} {ma : M (Bool × List D)} {r : List V → Hp → VK → Prop} {f : List D → Option D} (ha : SndA c J ta ma) (hr : OpV c.K r f) : SndE c J (fun W => fun σ H Q => ta W σ H fun vs H1 => r vs H1 Q) (eOp ma f) := by
  intro W s σ H O F Q o q
  refine ha W s σ H O F _ o ?_
  unfold eOp at q
  cases h1 : ma s with
  | bad => rw [h1] at q; exact q
  | exc x s1 => rw [h1] at q; exact q
  | ok bd s1 e1 =>
    obtain ⟨b, ds⟩ := bd
    rw [h1] at q
    intro vs H1 T1 O1 r1 o1 p1
    simp only [] at q
    cases h2 : f ds with
    | none => rw [h2] at q; exact q.elim
    | some d =>
      rw [h2] at q
      have own1 : ∀ a ∈ O1 ++ (T1 ++ F), ∃ u, H1 a = some u := fun a ha => OwnO.some (o1.own a ha)
      have nd1 := o1.nd
      have ndT : (T1 ++ av b O1 F).Nodup := by
        unfold av
        cases b with
        | true => exact nd_comm nd1
        | false => simpa using (List.nodup_append.mp nd1).2.1
      refine hr H1 T1 (av b O1 F) ds vs d Q r1 ndT (fun a ha => ?_) h2 fun v H2 T2 r2 nd2 ext nw => ?_
      · obtain ⟨u, e⟩ := own1 a (by rcases mem_av.mp ha with ⟨_, z⟩ | z <;> simp [z])
        rw [e]
        exact fun z => by cases z
      · have T2R : ∀ a ∈ T2, a ∉ O1 ++ F := fun a h z => by
          rcases nw a h with y | y
          · have : a ∈ O1 ∨ a ∈ F := by simpa using z
            rcases this with z | z
            · exact (List.nodup_append.mp nd1).2.2 a z a (List.mem_append_left _ y) rfl
            · exact (List.nodup_append.mp (List.nodup_append.mp nd1).2.1).2.2 a y a z rfl
          · obtain ⟨u, e⟩ := own1 a (by
              have : a ∈ O1 ∨ a ∈ F := by simpa using z
              rcases this with z | z <;> simp [z])
            rw [e] at y; cases y
        have nd3 : (O1 ++ (T2 ++ F)).Nodup := by
          refine nd_comm ?_
          refine List.nodup_append.mpr ⟨(List.nodup_append.mp nd2).1, nd_mid nd1, fun a h b hb e => ?_⟩
          subst e
          exact T2R a h hb
        have o2 : Own c.K J H2 s1 σ O1 (T2 ++ F) := by
          refine ⟨o1.rep.mv (M := []) ⟨fun a u h _ => ext a u h, by simp, by simp, fun a ha => ?_⟩ (by simp), nd3, fun a ha => ?_, o1.pin⟩
          · simp only [List.mem_append] at ha ⊢
            rcases ha with z | z | z
            · exact .inl (.inl z)
            · rcases nw a z with y | y
              · exact .inl (.inr (.inl y))
              · exact .inr y
            · exact .inl (.inr (.inr z))
          · rcases List.mem_append.mp ha with z | z
            · exact r2.own a z
            · obtain ⟨u, e⟩ := own1 a (by simp [z])
              have := o1.fr a (List.mem_append_right _ z)
              rw [e] at this
              rw [ext a u e]
              exact this
        refine q v H2 T2 O1 ?_ o2 ⟨fun a u h n => ext a u (p1.keep a u h n), fun a h => ?_, p1.newO⟩
        · by_cases hb : b = true
          · subst hb; simpa using r2
          · have hb' : b = false := by simpa using hb
            subst hb'
            by_cases hn : noFz d = true
            · exact r2.loose hn
            · have : noFz d = false := by simpa using hn
              rw [this]
              exact r2
        · rcases nw a h with y | y
          · exact p1.newT a y
          · by_cases m : e1 = true ∧ a ∈ O
            · exact .inl m
            · refine .inr ?_
              cases k : H a with
              | none => rfl
              | some u => rw [p1.keep a u k fun z y => m ⟨z, y⟩] at y; cases y
def r1V (r : V → Hp → VK → Prop) : List V → Hp → VK → Prop := fun vs H Q => match vs with
  | [x] => r x H Q
  | _ => False
def r2V (r : R2) : List V → Hp → VK → Prop := fun vs H Q => match vs with
  | [x, y] => r x y H Q
  | _ => False
abbrev e1 (ma : M Val) (f : List D → Option D) : M Val := eOp (aCons ma aNil) f
abbrev e2 (ma mb : M Val) (f : List D → Option D) : M Val := eOp (aCons ma (aCons mb aNil)) f
theorem snd_un {ta : WX → TE} {ma : M Val} {r : V → Hp → VK → Prop} {f : List D → Option D} (ha : SndE c J ta ma) (hr : OpV c.K (r1V r) f) : SndE c J (fun W => tUn r (ta W)) (e1 ma f) :=
  snd_op (snd_cons ha snd_nil) hr
theorem snd_bin {ta tb : WX → TE} {ma mb : M Val} {r : R2} {f : List D → Option D} (ha : SndE c J ta ma) (hb : SndE c J tb mb) (hr : OpV c.K (r2V r) f) : SndE c J (fun W => tOp r (ta W) (tb W)) (e2 ma mb f) :=
  snd_op (snd_cons ha (snd_cons hb snd_nil)) hr
/-- a value that is a bool, as a test -/
def tst (m : M Val) : M Bool := fun s => match m s with
  | .ok (_, .bl b) s' e => .ok b s' e
  | .ok _ _ _ => .bad
  | .exc x s' => .exc x s'
  | .bad => .bad
theorem snd_tst {ta : WX → TE} {ma : M Val} (ha : SndE c J ta ma) : SndT c J (fun W => fun σ H Q => ta W σ H fun x H' => ∃ k, x = .bl k ∧ Q k H') (tst ma) := by
  intro W s σ H O F Q o q
  refine ha W s σ H O F _ o ?_
  unfold tst at q
  cases h1 : ma s with
  | bad => rw [h1] at q; exact q
  | exc x s1 => rw [h1] at q; exact q
  | ok bd s1 e1 =>
    obtain ⟨b, d⟩ := bd
    rw [h1] at q
    intro v H1 T1 O1 r1 o1 p1
    cases d with
    | bl k => exact ⟨k, r1.1, q H1 O1 o1.drop (p1.sub (by simp) fun _ z => z)⟩
    | _ => exact q.elim
theorem se_bin {a b : Expr} {op : Operator} {pos : Pos} {ma mb : M Val} {r : R2} {f : List D → Option D} (ho : ∀ X, InC c X → OpR X (binaryOp op) r) (hf : OpV c.K (r2V r) f) (ha : SE c J a ma) (hb : SE c J b mb) : SE c J (.BinOp a op b pos) (e2 ma mb f) := by
  obtain ⟨ta, pa, qa⟩ := ha
  obtain ⟨tb, pb, qb⟩ := hb
  exact ⟨_, fun W X hX tk => pe_op (ho X hX) (pa W X hX tk) (pb W X hX tk), snd_bin qa qb hf⟩
theorem se_un {a : Expr} {op : UnaryOp} {pos : Pos} {ma : M Val} {r : V → Hp → VK → Prop} {f : List D → Option D} (ho : ∀ X, InC c X → UnR X (unaryOp op) r) (hf : OpV c.K (r1V r) f) (ha : SE c J a ma) : SE c J (.UnaryOp op a pos) (e1 ma f) := by
  obtain ⟨ta, pa, qa⟩ := ha
  exact ⟨_, fun W X hX tk => pe_un (ho X hX) (pa W X hX tk), snd_un qa hf⟩
theorem se_cmp {a b : Expr} {op : CmpOp} {pos : Pos} {ma mb : M Val} {r : R2} {f : List D → Option D} (ho : ∀ X, InC c X → OpR X (compareOp op) r) (hf : OpV c.K (r2V r) f) (ha : SE c J a ma) (hb : SE c J b mb) (hm : behindInMarks op b = false := by first | rfl | exact nomark _) : SE c J (.Compare a [op] [b] pos) (e2 ma mb f) := by
  obtain ⟨ta, pa, qa⟩ := ha
  obtain ⟨tb, pb, qb⟩ := hb
  exact ⟨_, fun W X hX tk => pe_cmpR (ho X hX) (pa W X hX tk) (pb W X hX tk) hm, snd_bin qa qb hf⟩
theorem st_cmp {a b : Expr} {op : CmpOp} {pos : Pos} {ma mb : M Val} {r : R2} {f : List D → Option D} (ho : ∀ X, InC c X → OpR X (compareOp op) r) (hf : OpV c.K (r2V r) f) (ha : SE c J a ma) (hb : SE c J b mb) (hm : behindInMarks op b = false := by first | rfl | exact nomark _) : STs c J (.Compare a [op] [b] pos) (tst (e2 ma mb f)) := by
  obtain ⟨ta, pa, qa⟩ := ha
  obtain ⟨tb, pb, qb⟩ := hb
  exact ⟨_, fun W X hX tk => pt_cmpR (ho X hX) (pa W X hX tk) (pb W X hX tk) hm, snd_tst (snd_bin qa qb hf)⟩
theorem st_val {e : Expr} {m : M Val} (h : SE c J e m) (he : ∀ env whole, isTrue e env whole = (do let v ← whole; standAt e.pos; holding [v] (truthy v)) := by intro _ _; rfl) : STs c J e (tst m) := by
  obtain ⟨ta, pa, qa⟩ := h
  exact ⟨_, fun W X hX tk => pt_val (pa W X hX tk) (he _), snd_tst qa⟩
theorem se_callB {x : Str} {p pos : Pos} {e : Expr} {es : List Expr} {ma : M (Bool × List D)} {r : List V → Hp → VK → Prop} {f : List D → Option D} {id : String} (hc : ∀ X, InC c X → CallR X (.builtin id) r) (hf : OpV c.K r f) (hg : c.scope.names.lookup x = some .globalImplicit) (hm : c.mg x = none) (hv : bootBuiltins x = some (.builtin id)) (ha : SA c J (e :: es) ma)
    (hn : x ≠ "__name__" := by decide) (hdb : (x == ("__debug__" : Str)) = false := by decide) (he : ∀ env : Env, starEach (e :: es) env = (false, eval e env) :: starEach es env := by intro _; rfl) (hpl : ∀ env : Env, (backTo pos (starEach es env)).any (·.1) = false := by intro _; rfl) : SE c J (.Call (.Name x p) (e :: es) [] pos) (eOp ma f) := by
  obtain ⟨ta, pa, qa⟩ := ha
  exact ⟨_, fun W X hX tk => pe_callB (hc X hX) (by show X.env.scope.names.lookup x = _; rw [hX.scope]; exact hg) (by rw [hX.mg]; exact hm) hv (pa W X hX tk) hn hdb (he _) (hpl _), snd_op qa hf⟩
theorem se_callTy {x : Str} {p pos : Pos} {e : Expr} {es : List Expr} {ma : M (Bool × List D)} {r : List V → Hp → VK → Prop} {f : List D → Option D} {T : String} (hc : ∀ X, InC c X → CallR X (.type T) r) (hf : OpV c.K r f) (hg : c.scope.names.lookup x = some .globalImplicit) (hm : c.mg x = none) (hv : bootBuiltins x = some (.type T)) (ha : SA c J (e :: es) ma)
    (hn : x ≠ "__name__" := by decide) (hdb : (x == ("__debug__" : Str)) = false := by decide) (he : ∀ env : Env, starEach (e :: es) env = (false, eval e env) :: starEach es env := by intro _; rfl) (hpl : ∀ env : Env, (backTo pos (starEach es env)).any (·.1) = false := by intro _; rfl) : SE c J (.Call (.Name x p) (e :: es) [] pos) (eOp ma f) := by
  obtain ⟨ta, pa, qa⟩ := ha
  exact ⟨_, fun W X hX tk => pe_callTy (hc X hX) (by show X.env.scope.names.lookup x = _; rw [hX.scope]; exact hg) (by rw [hX.mg]; exact hm) hv (pa W X hX tk) hn hdb (he _) (hpl _), snd_op qa hf⟩

/-! ### displays -/
theorem Rps.ext {K : Frag} {H H' : Hp} {L L' T : List Addr} {ds : List D} {vs : List V} (r : Rps K H L ds vs T) (ext : ∀ a u, H a = some u → H' a = some u) (hL : ∀ a ∈ L', a ∈ L ∨ H a = none) : Rps K H' L' ds vs T :=
  r.mv (M := []) ⟨fun a u h _ => ext a u h, by simp, by simp, hL⟩ (by simp)
theorem Rp.ext {K : Frag} {H H' : Hp} {L L' T : List Addr} {d : D} {v : V} (r : Rp K H L d v T) (ext : ∀ a u, H a = some u → H' a = some u) (hL : ∀ a ∈ L', a ∈ L ∨ H a = none) : Rp K H' L' d v T :=
  r.mv (M := []) ⟨fun a u h _ => ext a u h, by simp, by simp, hL⟩ (by simp)
theorem upd_ext {H : Hp} {p : Addr} {o : HO} (hp : H p = none) : ∀ a u, H a = some u → upd H p o a = some u := fun a u h => by
  rw [upd_ne (ne_of_none h hp)]; exact h
theorem free_in {K : Frag} {H : Hp} {L T R : List Addr} {ds : List D} {vs : List V} {p : Addr} (r : Rps K H L ds vs T) (hR : ∀ a ∈ R, H a ≠ none) (hp : H p = none) : p ∉ T ++ R := fun z => by
  rcases List.mem_append.mp z with z | z
  · have := r.own p z
    rw [hp] at this
    exact this
  · exact hR p z hp
def fits (n : Nat) : Bool := decide (n ≤ 16777216)
/-- i < c and -c < i, stuck at a variable at once -/
def ltI (i : Int) (c : Nat) : Bool := match i with
  | .ofNat n => Nat.blt n c
  | .negSucc _ => true
def gtI (i : Int) (c : Nat) : Bool := match i with
  | .ofNat _ => true
  | .negSucc n => Nat.blt (n + 1) c
theorem ltI_eq (i : Int) (c : Nat) : ltI i c = decide (i < (c : Int)) := by
  rw [Bool.eq_iff_iff, decide_eq_true_iff]
  cases i with
  | ofNat n =>
    show Nat.blt n c = true ↔ ((n : Nat) : Int) < (c : Int)
    rw [Nat.blt_eq]
    omega
  | negSucc n =>
    show true = true ↔ Int.negSucc n < (c : Int)
    have h : Int.negSucc n < (c : Int) := by omega
    simp [h]
theorem gtI_eq (i : Int) (c : Nat) (hc : 0 < c) : gtI i c = decide (-(c : Int) < i) := by
  rw [Bool.eq_iff_iff, decide_eq_true_iff]
  cases i with
  | ofNat n =>
    show true = true ↔ -(c : Int) < ((n : Nat) : Int)
    have h : -(c : Int) < ((n : Nat) : Int) := by omega
    simp [h]
  | negSucc n =>
    show Nat.blt (n + 1) c = true ↔ -(c : Int) < Int.negSucc n
    rw [Nat.blt_eq]
    omega
def i62 (i : Int) : Bool := gtI i 4611686018427387905 && ltI i 4611686018427387904
theorem i62_eq (i : Int) : i62 i = decide (-4611686018427387904 ≤ i ∧ i < 4611686018427387904) := by
  unfold i62
  rw [ltI_eq, gtI_eq _ _ (by decide)]
  by_cases h : -4611686018427387904 ≤ i <;> by_cases q : i < 4611686018427387904 <;> simp [h, q] <;> omega
theorem i62_ok {i : Int} (h : i62 i = true) : -(2 ^ 62) ≤ i ∧ i < 2 ^ 62 := by
  rw [i62_eq] at h
  have := of_decide_eq_true h
  omega
def i64 (i : Int) : Bool := gtI i 18446744073709551616 && ltI i 18446744073709551616
theorem i64_eq (i : Int) : i64 i = decide (-18446744073709551616 < i ∧ i < 18446744073709551616) := by
  unfold i64
  rw [ltI_eq, gtI_eq _ _ (by decide)]
  by_cases h : -18446744073709551616 < i <;> by_cases q : i < 18446744073709551616 <;> simp [h, q]
theorem i64_ok {i : Int} (h : i64 i = true) : -(2 ^ 64) < i ∧ i < 2 ^ 64 := by
  rw [i64_eq] at h
  have := of_decide_eq_true h
  omega
theorem fits_line {n : Nat} (h : fits n = true) : n ≤ sizeLine := by
  rw [sizeLine_eq]
  have := of_decide_eq_true h
  omega
def fTup (ds : List D) : Option D := if fits ds.length = true then some (.tup ds) else none
def fLst (ds : List D) : Option D := if fits ds.length = true then some (.lst true ds) else none
theorem op_tup {K : Frag} : OpV K (fun xs H1 Q => xs.length ≤ sizeLine ∧ ∀ p, H1 p = none → Q (.ref p) (upd H1 p (.tup xs))) fTup := by
  intro H T R ds vs d Q r nd hR hf q
  unfold fTup at hf
  split at hf
  · rename_i hz
    cases hf
    refine ⟨by rw [← r.length]; exact fits_line hz, fun p hp => q _ _ T ?_ nd (upd_ext hp) fun a h => .inl h⟩
    exact ⟨p, vs, rfl, SqT.of upd_same, r.ext (upd_ext hp) fun a h => .inl h⟩
  · cases hf
theorem op_lst {K : Frag} : OpV K (fun xs H1 Q => xs.length ≤ sizeLine ∧ ∀ p, H1 p = none → Q (.ref p) (upd H1 p (.lst xs))) fLst := by
  intro H T R ds vs d Q r nd hR hf q
  unfold fLst at hf
  split at hf
  · rename_i hz
    cases hf
    refine ⟨by rw [← r.length]; exact fits_line hz, fun p hp => q _ _ (p :: T) ?_ ?_ (upd_ext hp) fun a h => ?_⟩
    · refine ⟨p, vs, T, rfl, upd_same, rfl, r.ext (upd_ext hp) fun a h => ?_⟩
      rcases List.mem_cons.mp h with rfl | h
      · exact .inr hp
      · exact .inl h
    · exact List.nodup_cons.mpr ⟨free_in r hR hp, nd⟩
    · rcases List.mem_cons.mp h with rfl | h
      · exact .inr hp
      · exact .inl h
  · cases hf
theorem se_tup {es : List Expr} {ma : M (Bool × List D)} {x1 pos} (ha : SA c J es ma) : SE c J (.Tuple es x1 pos) (eOp ma fTup) := by
  obtain ⟨ta, pa, qa⟩ := ha
  exact ⟨fun W => tTup (ta W), fun W X hX tk => pe_tup (pa W X hX tk), snd_op qa op_tup⟩
theorem se_lst {es : List Expr} {ma : M (Bool × List D)} {pos} (ha : SA c J es ma) : SE c J (.List es pos) (eOp ma fLst) := by
  obtain ⟨ta, pa, qa⟩ := ha
  exact ⟨fun W => tLst (ta W), fun W X hX tk => pe_lst (pa W X hX tk), snd_op qa op_lst⟩

/-! ### conditions -/
def xIf (mt : M Bool) (ma mb : M Val) : M Val := fun s => match mt s with
  | .ok b s1 e1 => (match (if b = true then ma s1 else mb s1) with
    | .ok v s2 e2 => .ok v s2 (e1 || e2)
    | .exc x s2 => .exc x s2
    | .bad => .bad)
  | .exc x s1 => .exc x s1
  | .bad => .bad
theorem post_if {W : WX} {H H1 : Hp} {σ : St} {O F O1 : List Addr} {e1 : Bool} {Q : VK} {r : R Val} (p1 : Stp e1 H H1 O [] O1) (q : PostE c J W H σ O F Q (match r with
    | .ok v s2 e2 => .ok v s2 (e1 || e2)
    | .exc x s2 => .exc x s2
    | .bad => .bad)) : PostE c J W H1 σ O1 F Q r := by
  cases r with
  | bad => exact q
  | exc x s => exact XP.after (T1 := []) q p1
  | ok bd s e => exact fun v H' T O' r o p => q v H' T O' r o (by simpa using p1.trans p)
theorem postT_if {W : WX} {H H1 : Hp} {σ : St} {O F O1 : List Addr} {e1 : Bool} {Q : Bool → Hp → Prop} {r : R Bool} (p1 : Stp e1 H H1 O [] O1) (q : PostT c J W H σ O F Q (match r with
    | .ok v s2 e2 => .ok v s2 (e1 || e2)
    | .exc x s2 => .exc x s2
    | .bad => .bad)) : PostT c J W H1 σ O1 F Q r := by
  cases r with
  | bad => exact q
  | exc x s => exact XP.after (T1 := []) q p1
  | ok b s e => exact fun H' O' o p => q H' O' o (by simpa using p1.trans p)
theorem se_if {t a b : Expr} {pos : Pos} {mt : M Bool} {ma mb : M Val} (ht : STs c J t mt) (ha : SE c J a ma) (hb : SE c J b mb) : SE c J (.IfExp t a b pos) (xIf mt ma mb) := by
  obtain ⟨tt, pt, qt⟩ := ht
  obtain ⟨ta, pa, qa⟩ := ha
  obtain ⟨tb, pb, qb⟩ := hb
  refine ⟨_, fun W X hX tk => pe_ifExp (pt W X hX tk) (pa W X hX tk) (pb W X hX tk), fun W s σ H O F Q o q => ?_⟩
  refine qt W s σ H O F _ o ?_
  unfold xIf at q
  cases h1 : mt s with
  | bad => rw [h1] at q; exact q
  | exc x s1 => rw [h1] at q; exact q
  | ok k s1 e1 =>
    rw [h1] at q
    intro H1 O1 o1 p1
    cases k with
    | true => exact iteT (qa W s1 σ H1 O1 F _ o1 (post_if p1 q))
    | false => exact iteF (qb W s1 σ H1 O1 F _ o1 (post_if p1 q))
def tAndM (m n : M Bool) : M Bool := fun s => match m s with
  | .ok b s1 e1 => (match (if b = true then n s1 else .ok false s1 false) with
    | .ok v s2 e2 => .ok v s2 (e1 || e2)
    | .exc x s2 => .exc x s2
    | .bad => .bad)
  | .exc x s1 => .exc x s1
  | .bad => .bad
def tOrM (m n : M Bool) : M Bool := fun s => match m s with
  | .ok b s1 e1 => (match (if b = true then .ok true s1 false else n s1) with
    | .ok v s2 e2 => .ok v s2 (e1 || e2)
    | .exc x s2 => .exc x s2
    | .bad => .bad)
  | .exc x s1 => .exc x s1
  | .bad => .bad
def tNotM (m : M Bool) : M Bool := fun s => match m s with
  | .ok b s1 e1 => .ok (!b) s1 e1
  | .exc x s1 => .exc x s1
  | .bad => .bad
theorem snd_and {t u : WX → TT} {m n : M Bool} (hm : SndT c J t m) (hn : SndT c J u n) : SndT c J (fun W => tAnd (t W) (u W)) (tAndM m n) := by
  intro W s σ H O F Q o q
  refine hm W s σ H O F _ o ?_
  unfold tAndM at q
  cases h1 : m s with
  | bad => rw [h1] at q; exact q
  | exc x s1 => rw [h1] at q; exact q
  | ok k s1 e1 =>
    rw [h1] at q
    intro H1 O1 o1 p1
    cases k with
    | true => exact iteT (hn W s1 σ H1 O1 F _ o1 (postT_if p1 q))
    | false => exact iteF (q H1 O1 o1 (by simpa using p1))
theorem snd_or {t u : WX → TT} {m n : M Bool} (hm : SndT c J t m) (hn : SndT c J u n) : SndT c J (fun W => tOr (t W) (u W)) (tOrM m n) := by
  intro W s σ H O F Q o q
  refine hm W s σ H O F _ o ?_
  unfold tOrM at q
  cases h1 : m s with
  | bad => rw [h1] at q; exact q
  | exc x s1 => rw [h1] at q; exact q
  | ok k s1 e1 =>
    rw [h1] at q
    intro H1 O1 o1 p1
    cases k with
    | true => exact iteT (q H1 O1 o1 (by simpa using p1))
    | false => exact iteF (hn W s1 σ H1 O1 F _ o1 (postT_if p1 q))
theorem sw_and1 {a : Expr} {pos : Pos} {m : M Bool} (h : STs c J a m) : SW c J (.BoolOp .And [a] pos) m := by
  obtain ⟨t, p, q⟩ := h
  exact ⟨_, fun W X hX tk => pw_and1 (p W X hX tk), q⟩
theorem sw_or1 {a : Expr} {pos : Pos} {m : M Bool} (h : STs c J a m) : SW c J (.BoolOp .Or [a] pos) m := by
  obtain ⟨t, p, q⟩ := h
  exact ⟨_, fun W X hX tk => pw_or1 (p W X hX tk), q⟩
theorem sw_and {a b : Expr} {rest : List Expr} {pos : Pos} {m n : M Bool} (h : STs c J a m) (hr : SW c J (.BoolOp .And (b :: rest) pos) n) : SW c J (.BoolOp .And (a :: b :: rest) pos) (tAndM m n) := by
  obtain ⟨t, p, q⟩ := h
  obtain ⟨u, pu, qu⟩ := hr
  exact ⟨_, fun W X hX tk => pw_and (p W X hX tk) (pu W X hX tk), snd_and q qu⟩
theorem sw_or {a b : Expr} {rest : List Expr} {pos : Pos} {m n : M Bool} (h : STs c J a m) (hr : SW c J (.BoolOp .Or (b :: rest) pos) n) : SW c J (.BoolOp .Or (a :: b :: rest) pos) (tOrM m n) := by
  obtain ⟨t, p, q⟩ := h
  obtain ⟨u, pu, qu⟩ := hr
  exact ⟨_, fun W X hX tk => pw_or (p W X hX tk) (pu W X hX tk), snd_or q qu⟩
theorem SW.st {e : Expr} {m : M Bool} (h : SW c J e m) : STs c J e m := by
  obtain ⟨t, p, q⟩ := h
  exact ⟨t, fun W X hX tk => (p W X hX tk).pt, q⟩
theorem st_not {a : Expr} {pos : Pos} {m : M Bool} (h : STs c J a m) : STs c J (.UnaryOp .Not a pos) (tNotM m) := by
  obtain ⟨t, p, q⟩ := h
  refine ⟨_, fun W X hX tk => pt_not (p W X hX tk), fun W s σ H O F Q o k => q W s σ H O F _ o ?_⟩
  unfold tNotM at k
  cases h1 : m s with
  | bad => rw [h1] at k; exact k
  | exc x s1 => rw [h1] at k; exact k
  | ok b s1 e1 => rw [h1] at k; exact k
/-- bools as values -/
def xAnd (m n : M Val) : M Val := fun s => match m s with
  | .ok (_, .bl b) s1 e1 => (match (if b = true then n s1 else .ok (true, .bl false) s1 false) with
    | .ok v s2 e2 => .ok v s2 (e1 || e2)
    | .exc x s2 => .exc x s2
    | .bad => .bad)
  | .ok _ _ _ => .bad
  | .exc x s1 => .exc x s1
  | .bad => .bad
def xOr (m n : M Val) : M Val := fun s => match m s with
  | .ok (_, .bl b) s1 e1 => (match (if b = true then .ok (true, .bl true) s1 false else n s1) with
    | .ok v s2 e2 => .ok v s2 (e1 || e2)
    | .exc x s2 => .exc x s2
    | .bad => .bad)
  | .ok _ _ _ => .bad
  | .exc x s1 => .exc x s1
  | .bad => .bad
theorem Own.dropT {K : Frag} {H : Hp} {s : Sl} {σ : St} {O T F : List Addr} (o : Own K J H s σ O (T ++ F)) : Own K J H s σ O F := o.drop
theorem se_and {a b : Expr} {rest : List Expr} {pos : Pos} {m n : M Val} (h : SE c J a m) (hr : SE c J (.BoolOp .And (b :: rest) pos) n) : SE c J (.BoolOp .And (a :: b :: rest) pos) (xAnd m n) := by
  obtain ⟨t, p, qm⟩ := h
  obtain ⟨u, pu, qn⟩ := hr
  refine ⟨_, fun W X hX tk => pe_and (p W X hX tk) (pu W X hX tk), fun W s σ H O F Q o q => ?_⟩
  refine qm W s σ H O F _ o ?_
  unfold xAnd at q
  cases h1 : m s with
  | bad => rw [h1] at q; exact q
  | exc x s1 => rw [h1] at q; exact q
  | ok bd s1 e1 =>
    obtain ⟨b1, d⟩ := bd
    rw [h1] at q
    intro v H1 T1 O1 r1 o1 p1
    cases d with
    | bl k =>
      refine ⟨k, r1.1, ?_⟩
      have p1' := p1.sub (T' := []) (by simp) fun _ z => z
      cases k with
      | true => exact iteT (qn W s1 σ H1 O1 F _ o1.drop (post_if p1' q))
      | false => exact iteF (q (.bl false) H1 [] O1 ⟨rfl, rfl⟩ (by simpa using o1.drop) (by simpa using p1'))
    | _ => exact q.elim
theorem se_or {a b : Expr} {rest : List Expr} {pos : Pos} {m n : M Val} (h : SE c J a m) (hr : SE c J (.BoolOp .Or (b :: rest) pos) n) : SE c J (.BoolOp .Or (a :: b :: rest) pos) (xOr m n) := by
  obtain ⟨t, p, qm⟩ := h
  obtain ⟨u, pu, qn⟩ := hr
  refine ⟨_, fun W X hX tk => pe_or (p W X hX tk) (pu W X hX tk), fun W s σ H O F Q o q => ?_⟩
  refine qm W s σ H O F _ o ?_
  unfold xOr at q
  cases h1 : m s with
  | bad => rw [h1] at q; exact q
  | exc x s1 => rw [h1] at q; exact q
  | ok bd s1 e1 =>
    obtain ⟨b1, d⟩ := bd
    rw [h1] at q
    intro v H1 T1 O1 r1 o1 p1
    cases d with
    | bl k =>
      refine ⟨k, r1.1, ?_⟩
      have p1' := p1.sub (T' := []) (by simp) fun _ z => z
      cases k with
      | true => exact iteT (q (.bl true) H1 [] O1 ⟨rfl, rfl⟩ (by simpa using o1.drop) (by simpa using p1'))
      | false => exact iteF (qn W s1 σ H1 O1 F _ o1.drop (post_if p1' q))
    | _ => exact q.elim
theorem se_one {op} {a : Expr} {pos : Pos} {m : M Val} (h : SE c J a m) : SE c J (.BoolOp op [a] pos) m := by
  obtain ⟨t, p, q⟩ := h
  exact ⟨_, fun W X hX tk => pe_one (p W X hX tk), q⟩
def xNot (m : M Val) : M Val := fun s => match m s with
  | .ok (_, .bl b) s1 e1 => .ok (true, .bl (!b)) s1 e1
  | .ok _ _ _ => .bad
  | .exc x s1 => .exc x s1
  | .bad => .bad
theorem se_not {a : Expr} {pos : Pos} {m : M Val} (h : SE c J a m) : SE c J (.UnaryOp .Not a pos) (xNot m) := by
  obtain ⟨t, p, qm⟩ := h
  refine ⟨_, fun W X hX tk => pe_not (p W X hX tk), fun W s σ H O F Q o q => ?_⟩
  refine qm W s σ H O F _ o ?_
  unfold xNot at q
  cases h1 : m s with
  | bad => rw [h1] at q; exact q
  | exc x s1 => rw [h1] at q; exact q
  | ok bd s1 e1 =>
    obtain ⟨b1, d⟩ := bd
    rw [h1] at q
    intro v H1 T1 O1 r1 o1 p1
    cases d with
    | bl k => exact ⟨k, r1.1, q (.bl (!k)) H1 [] O1 ⟨rfl, rfl⟩ (by simpa using o1.drop) (p1.sub (by simp) fun _ z => z)⟩
    | _ => exact q.elim
end
end VL
/-! VL 4: statements -/
namespace VL
open PySem PySem.Spec L2

/-- where a statement ends -/
inductive Fw where
  | nx (s : Sl)
  | rt (d : D) (s : Sl)
  | bk (s : Sl)
  | ct (s : Sl)
  | exc (x : Exc) (s : Sl)
  | bad
abbrev MS := Sl → Fw
def PostS (c : Ctx) (J : List (Nat × V)) (W : WX) (E : Ends) (H : Hp) (O F : List Addr) : Fw → Prop
  | .nx s' => ∀ σ' H' O', Own c.K J H' s' σ' O' F → Stp true H H' O [] O' → E.nx σ' H'
  | .rt d s' => ∀ v σ' H' T O', Rp c.K H' (T ++ (O' ++ F)) d v T → Own c.K J H' s' σ' O' (T ++ F) → Stp true H H' O T O' → E.rt v H'
  | .bk s' => ∀ σ' H' O', Own c.K J H' s' σ' O' F → Stp true H H' O [] O' → E.bk σ' H'
  | .ct s' => ∀ σ' H' O', Own c.K J H' s' σ' O' F → Stp true H H' O [] O' → E.ct σ' H'
  | .exc x s' => ∀ cls dx σ' H' O', XRp c.K c.mg H' (O' ++ F) x cls dx → Own c.K J H' s' σ' O' F → Stp true H H' O [] O' → W cls dx σ' H'
  | .bad => False
def SndS (c : Ctx) (J : List (Nat × V)) (ts : WX → TS) (m : MS) : Prop := ∀ W E s σ H O F, Own c.K J H s σ O F → PostS c J W E H O F (m s) → ts W E σ H
def SS (c : Ctx) (J : List (Nat × V)) (st : Stmt) (m : MS) : Prop := ∃ ts : WX → TS, (∀ W X, InC c X → Takes X W → PS X st (ts W)) ∧ SndS c J ts m
def SSs (c : Ctx) (J : List (Nat × V)) (st : List Stmt) (m : MS) : Prop := ∃ ts : WX → TS, (∀ W X, InC c X → Takes X W → PSs X st (ts W)) ∧ SndS c J ts m
/-- all slots but ws are as they were -/
def Off (ws : List Nat) (σ σ' : St) : Prop := σ'.length = σ.length ∧ ∀ j, j ∉ ws → σ'[j]? = σ[j]?
/-- targets: what is stored is strict, owned parts T; ws: the slots that are set -/
def SndG (c : Ctx) (J : List (Nat × V)) (ws : List Nat) (tg : WX → TG) (g : D → Sl → Option Sl) : Prop := ∀ W s s' σ H O T F d v Q, Own c.K J H s σ O (T ++ F) → Rp c.K H (T ++ (O ++ F)) d v T → g d s = some s' →
  (∀ σ' H' O', Own c.K J H' s' σ' O' F → Stp true H H' (T ++ O) [] O' → Off ws σ σ' → Q σ' H') → tg W v σ H Q
def SG (c : Ctx) (J : List (Nat × V)) (ws : List Nat) (tgt : Expr) (g : D → Sl → Option Sl) : Prop := ∃ tg : WX → TG, (∀ W X, InC c X → Takes X W → PG X tgt (tg W)) ∧ SndG c J ws tg g
def SndGs (c : Ctx) (J : List (Nat × V)) (ws : List Nat) (tg : WX → TGs) (g : List D → Sl → Option Sl) : Prop := ∀ W s s' σ H O T F ds vs Q, Own c.K J H s σ O (T ++ F) → Rps c.K H (T ++ (O ++ F)) ds vs T → g ds s = some s' →
  (∀ σ' H' O', Own c.K J H' s' σ' O' F → Stp true H H' (T ++ O) [] O' → Off ws σ σ' → Q σ' H') → tg W vs σ H Q
def SGs (c : Ctx) (J : List (Nat × V)) (ws : List Nat) (tgts : List Expr) (g : List D → Sl → Option Sl) : Prop := ∃ tg : WX → TGs, (∀ W X, InC c X → Takes X W → PGs X tgts (tg W)) ∧ SndGs c J ws tg g

section
variable {c : Ctx} {J : List (Nat × V)}
theorem PostS.after {W : WX} {E : Ends} {H H1 : Hp} {O O1 F : List Addr} {e : Bool} {r : Fw} (q : PostS c J W E H O F r) (p : Stp e H H1 O [] O1) : PostS c J W E H1 O1 F r := by
  have tr : ∀ {H' T O'}, Stp true H1 H' O1 T O' → Stp true H H' O T O' := fun st => by
    have := p.trans st
    simp only [List.nil_append] at this
    exact this.mono fun _ => rfl
  cases r with
  | nx s => exact fun σ' H' O' o st => q σ' H' O' o (tr st)
  | rt d s => exact fun v σ' H' T O' r o st => q v σ' H' T O' r o (tr st)
  | bk s => exact fun σ' H' O' o st => q σ' H' O' o (tr st)
  | ct s => exact fun σ' H' O' o st => q σ' H' O' o (tr st)
  | exc x s => exact fun cls dx σ' H' O' hx o st => q cls dx σ' H' O' hx o (tr st)
  | bad => exact q
theorem PostS.imp {W : WX} {E E' : Ends} {H : Hp} {O F : List Addr} {r : Fw} (q : PostS c J W E H O F r) (h1 : ∀ σ H, E.nx σ H → E'.nx σ H) (h2 : ∀ v H, E.rt v H → E'.rt v H) (h3 : ∀ σ H, E.bk σ H → E'.bk σ H) (h4 : ∀ σ H, E.ct σ H → E'.ct σ H) : PostS c J W E' H O F r := by
  cases r with
  | nx s => exact fun σ' H' O' o st => h1 _ _ (q σ' H' O' o st)
  | rt d s => exact fun v σ' H' T O' r o st => h2 _ _ (q v σ' H' T O' r o st)
  | bk s => exact fun σ' H' O' o st => h3 _ _ (q σ' H' O' o st)
  | ct s => exact fun σ' H' O' o st => h4 _ _ (q σ' H' O' o st)
  | exc x s => exact q
  | bad => exact q
theorem XP.stmt {W : WX} {E : Ends} {H : Hp} {σ : St} {O F : List Addr} {x : Exc} {s : Sl} (q : PostS c J W E H O F (.exc x s)) : XP c J W H σ O F x s := fun cls dx H' O' hx o st => q cls dx σ H' O' hx o st

/-! ### sequences -/
def sSeq (m n : MS) : MS := fun s => match m s with
  | .nx s' => n s'
  | r => r
def sNil : MS := fun s => .nx s
theorem snd_nilS : SndS c J (fun _ => tNext) sNil := fun W E s σ H O F o q => q σ H O o Stp.refl
theorem snd_seq {t u : WX → TS} {m n : MS} (hm : SndS c J t m) (hn : SndS c J u n) : SndS c J (fun W => tSeq (t W) (u W)) (sSeq m n) := by
  intro W E s σ H O F o q
  refine hm W _ s σ H O F o ?_
  unfold sSeq at q
  cases h1 : m s with
  | nx s1 =>
    rw [h1] at q
    exact fun σ' H' O' o' st => hn W E s1 σ' H' O' F o' (PostS.after q st)
  | rt d s1 => rw [h1] at q; exact q
  | bk s1 => rw [h1] at q; exact q
  | ct s1 => rw [h1] at q; exact q
  | exc x s1 => rw [h1] at q; exact q
  | bad => rw [h1] at q; exact q
theorem ss_nil : SSs c J [] sNil := ⟨fun _ => tNext, fun _ _ _ _ => pss_nil, snd_nilS⟩
theorem ss_cons {st : Stmt} {rest : List Stmt} {m n : MS} (h : SS c J st m) (hr : SSs c J rest n) : SSs c J (st :: rest) (sSeq m n) := by
  obtain ⟨t, p, q⟩ := h
  obtain ⟨u, pu, qu⟩ := hr
  exact ⟨_, fun W X hX tk => pss_cons (p W X hX tk) (pu W X hX tk), snd_seq q qu⟩
theorem ss_one {st : Stmt} {m : MS} (h : SS c J st m) : SSs c J [st] m := by
  obtain ⟨t, p, q⟩ := h
  exact ⟨_, fun W X hX tk => pss_one (p W X hX tk), q⟩
theorem ss_pass {pos} : SS c J (.Pass pos) sNil := ⟨fun _ => tNext, fun _ _ _ _ => ps_pass, snd_nilS⟩
theorem ss_break {pos} : SS c J (.Break pos) (fun s => .bk s) := ⟨fun _ => tBreak, fun _ _ _ _ => ps_break, fun W E s σ H O F o q => q σ H O o Stp.refl⟩
theorem ss_continue {pos} : SS c J (.Continue pos) (fun s => .ct s) := ⟨fun _ => tCont, fun _ _ _ _ => ps_continue, fun W E s σ H O F o q => q σ H O o Stp.refl⟩
theorem ss_doc {x j pos pos'} : SS c J (.Expr (.Constant (.str x) j pos) pos') sNil := ⟨fun _ => tNext, fun _ _ _ _ => ps_doc, snd_nilS⟩
/-- slots that are no longer needed are forgotten -/
def kill : List Nat → Sl → Sl
  | [], s => s
  | i :: is, s => (kill is s).set i none
theorem Own.kill1 {K : Frag} {H : Hp} {s : Sl} {σ : St} {O F : List Addr} (o : Own K J H s σ O F) (i : Nat) : ∃ O', (∀ a ∈ O', a ∈ O) ∧ Own K J H (s.set i none) σ O' F := by
  cases e : s[i]? with
  | none => exact ⟨O, fun _ h => h, by rw [List.set_eq_of_length_le (List.getElem?_eq_none_iff.mp e)]; exact o⟩
  | some x =>
    obtain ⟨v, O1, O2, h1, h2, h3, h4⟩ := o.set e
    have hnd : (O1 ++ (O2 ++ F)).Nodup := by
      have := (h3.append_right F).nodup_iff.mp o.nd
      rwa [List.append_assoc] at this
    obtain ⟨O3, p3, o3⟩ := h4 (H' := H) (F' := F) (y := none) (w := v) (U := []) (fun _ _ h _ => h) (by simp) (fun a h => .inr (.inl h)) (by simpa using (List.nodup_append.mp hnd).2.1) o.fr (fun L' hL => rfl)
      (fun p hp hi => by have := o.pin p hp; rw [hi, h1] at this; exact Option.some.inj this)
    rw [set_same h1] at o3
    exact ⟨O3, fun a ha => h3.symm.subset (List.mem_append_right _ (by simpa using p3.subset ha)), o3⟩
theorem Own.kill {K : Frag} {H : Hp} {σ : St} {F : List Addr} : ∀ (is : List Nat) {s : Sl} {O : List Addr}, Own K J H s σ O F → ∃ O', (∀ a ∈ O', a ∈ O) ∧ Own K J H (kill is s) σ O' F
  | [], s, O, o => ⟨O, fun _ h => h, o⟩
  | i :: is, s, O, o => by
    obtain ⟨O1, h1, o1⟩ := Own.kill is o
    obtain ⟨O2, h2, o2⟩ := o1.kill1 i
    exact ⟨O2, fun a h => h1 a (h2 a h), o2⟩
def sKill (is : List Nat) (m : MS) : MS := fun s => match m s with
  | .nx s' => .nx (kill is s')
  | r => r
theorem ss_kill (is : List Nat) {st : Stmt} {m : MS} (h : SS c J st m) : SS c J st (sKill is m) := by
  obtain ⟨t, p, q⟩ := h
  refine ⟨t, p, fun W E s σ H O F o k => q W E s σ H O F o ?_⟩
  unfold sKill at k
  cases h1 : m s with
  | nx s1 =>
    rw [h1] at k
    intro σ' H' O' o' st
    obtain ⟨O2, g, o2⟩ := o'.kill is
    exact k σ' H' O2 o2 (st.sub (by simp) g)
  | rt d s1 => rw [h1] at k; exact k
  | bk s1 => rw [h1] at k; exact k
  | ct s1 => rw [h1] at k; exact k
  | exc x s1 => rw [h1] at k; exact k
  | bad => rw [h1] at k; exact k

/-! ### expressions as statements, return -/
def sExpr (m : M Val) : MS := fun s => match m s with
  | .ok _ s' _ => .nx s'
  | .exc x s' => .exc x s'
  | .bad => .bad
theorem ss_expr {e : Expr} {m : M Val} {pos : Pos} (h : SE c J e m) (hs : ∀ env : Env, swapsWith e none pos.line env = pure false := by intro _; rfl) : SS c J (.Expr e pos) (sExpr m) := by
  obtain ⟨t, p, q⟩ := h
  refine ⟨_, fun W X hX tk => ps_expr (p W X hX tk) (hs _), fun W E s σ H O F o k => q W s σ H O F _ o ?_⟩
  unfold sExpr at k
  cases h1 : m s with
  | bad => rw [h1] at k; exact k
  | exc x s1 => rw [h1] at k; exact XP.stmt k
  | ok bd s1 e1 =>
    obtain ⟨b, d⟩ := bd
    rw [h1] at k
    exact fun v H1 T1 O1 r1 o1 p1 => k σ H1 O1 o1.drop ((p1.sub (by simp) fun _ z => z).mono fun _ => rfl)
theorem strict_of {b : Bool} {d : D} {K : Frag} {H : Hp} {T O F : List Addr} {v : V} (h : (b || noFz d) = true) (r : Rp K H (T ++ av b O F) d v T) : Rp K H (T ++ (O ++ F)) d v T := by
  cases b with
  | true => simpa [av] using r
  | false => exact r.loose (by simpa using h)
def sRet (m : M Val) : MS := fun s => match m s with
  | .ok (b, d) s' _ => if (b || noFz d) = true then .rt d s' else .bad
  | .exc x s' => .exc x s'
  | .bad => .bad
theorem ss_ret {e : Expr} {m : M Val} {pos : Pos} (h : SE c J e m) : SS c J (.Return (some e) pos) (sRet m) := by
  obtain ⟨t, p, q⟩ := h
  refine ⟨_, fun W X hX tk => ps_ret (p W X hX tk), fun W E s σ H O F o k => q W s σ H O F _ o ?_⟩
  unfold sRet at k
  cases h1 : m s with
  | bad => rw [h1] at k; exact k
  | exc x s1 => rw [h1] at k; exact XP.stmt k
  | ok bd s1 e1 =>
    obtain ⟨b, d⟩ := bd
    rw [h1] at k
    intro v H1 T1 O1 r1 o1 p1
    simp only [] at k
    split at k
    · rename_i hb
      exact k v σ H1 T1 O1 (strict_of hb r1) o1 (p1.mono fun _ => rfl)
    · exact k.elim
theorem ss_retN {pos} : SS c J (.Return none pos) (fun s => .rt .non s) :=
  ⟨fun _ => tRetN, fun _ _ _ _ => ps_retN, fun W E s σ H O F o q => q .non σ H [] O ⟨rfl, rfl⟩ (by simpa using o) Stp.refl⟩

/-! ### if -/
def sIf (mt : M Bool) (m n : MS) : MS := fun s => match mt s with
  | .ok b s1 _ => if b = true then m s1 else n s1
  | .exc x s1 => .exc x s1
  | .bad => .bad
theorem ss_if {t : Expr} {a b : List Stmt} {pos : Pos} {mt : M Bool} {m n : MS} (ht : STs c J t mt) (ha : SSs c J a m) (hb : SSs c J b n) : SS c J (.If t a b pos) (sIf mt m n) := by
  obtain ⟨tt, pt, qt⟩ := ht
  obtain ⟨ta, pa, qa⟩ := ha
  obtain ⟨tb, pb, qb⟩ := hb
  refine ⟨_, fun W X hX tk => ps_if (pt W X hX tk) (pa W X hX tk) (pb W X hX tk), fun W E s σ H O F o k => qt W s σ H O F _ o ?_⟩
  unfold sIf at k
  cases h1 : mt s with
  | bad => rw [h1] at k; exact k
  | exc x s1 => rw [h1] at k; exact XP.stmt k
  | ok b s1 e1 =>
    rw [h1] at k
    intro H1 O1 o1 p1
    cases b with
    | true => exact iteT (qa W E s1 σ H1 O1 F o1 (PostS.after (by simpa using k) p1))
    | false => exact iteF (qb W E s1 σ H1 O1 F o1 (PostS.after (by simpa using k) p1))

/-! ### assignment -/
/-- a strict thing goes into slot i -/
theorem Own.put {K : Frag} {H : Hp} {s : Sl} {σ : St} {O T F : List Addr} {d : D} {v : V} (o : Own K J H s σ O (T ++ F)) (r : Rp K H (T ++ (O ++ F)) d v T) (i : Nat) (hi : ∀ p ∈ J, p.1 ≠ i) :
    ∃ O', (∀ a ∈ O', a ∈ T ∨ a ∈ O) ∧ Own K J H (s.set i (some d)) (σ.set i (some v)) O' F := by
  cases e : s[i]? with
  | none =>
    have hl := List.getElem?_eq_none_iff.mp e
    refine ⟨O, fun _ h => .inr h, ?_⟩
    rw [List.set_eq_of_length_le hl, List.set_eq_of_length_le (by rw [← o.rep.length]; exact hl)]
    exact o.drop
  | some x =>
    obtain ⟨w, O1, O2, h1, h2, h3, h4⟩ := o.set e
    have hnd : (O1 ++ (O2 ++ (T ++ F))).Nodup := by
      have := (h3.append_right (T ++ F)).nodup_iff.mp o.nd
      rwa [List.append_assoc] at this
    have h0 : O2 ⊆ O := fun a ha => h3.symm.subset (List.mem_append_right _ ha)
    obtain ⟨O3, p3, o3⟩ := h4 (H' := H) (F' := F) (y := some d) (w := some v) (U := T) (fun _ _ h _ => h) (fun a h => .inr (.inl (List.mem_append_left _ h))) (fun a h => .inr (.inl (List.mem_append_right _ h)))
      (nd_comm (List.nodup_append.mp hnd).2.1) (fun a h => o.fr a (List.mem_append_right _ h))
      (fun L' hL => ⟨v, rfl, r.anti fun a ha => by
        have := hL a ha
        simp only [List.mem_append] at this ⊢
        rcases this with z | z | z
        · exact .inl z
        · exact .inr (.inl (h0 z))
        · exact .inr (.inr z)⟩)
      (fun p hp h => absurd h (hi p hp))
    refine ⟨O3, fun a ha => ?_, o3⟩
    rcases List.mem_append.mp (p3.subset ha) with z | z
    · exact .inl z
    · exact .inr (h0 z)
def notPin (J : List (Nat × V)) (i : Nat) : Prop := ∀ p ∈ J, p.1 ≠ i
def gNm (i : Nat) : D → Sl → Option Sl := fun d s => some (s.set i (some d))
theorem sg_name (i : Nat) {x : Str} {pos : Pos} (hn : c.N.Nodup) (hN : c.N[i]? = some x := by rfl) (hp : notPin J i) (hx : Loc c.scope x := by first | exact Or.inl rfl | exact Or.inr rfl)
    (hf : c.fn x = true ∨ c.scope.names.lookup x = some .local := by first | exact .inl rfl | exact .inr rfl) : SG c J [i] (.Name x pos) (gNm i) := by
  refine ⟨fun _ => gName i, fun W X hX tk => pg_name (by rw [hX.N]; exact hn) (by rw [hX.N]; exact hN) (by rw [hX.scope]; exact hx) ?_, fun W s s' σ H O T F d v Q o r hg q => ?_⟩
  · exact hf.imp (hX.fn x) fun z => by rw [hX.scope]; exact z
  · cases hg
    obtain ⟨O', h, o'⟩ := o.put r i hp
    exact q _ _ O' o' ⟨fun _ _ h _ => h, by simp, fun a ha => .inl (by have := h a ha; simp only [List.mem_append]; exact this)⟩ ⟨by simp, fun j hj => by rw [List.getElem?_set_ne (fun e => hj (by simp [e]))]⟩
def gsNil : List D → Sl → Option Sl := fun ds s => match ds with
  | [] => some s
  | _ => none
def gsCons (g : D → Sl → Option Sl) (gs : List D → Sl → Option Sl) : List D → Sl → Option Sl := fun ds s => match ds with
  | [] => none
  | d :: ds => match g d s with
    | some s1 => gs ds s1
    | none => none
theorem sgs_nil : SGs c J [] [] gsNil := ⟨fun _ => gNil, fun _ _ _ _ => pgs_nil, fun W s s' σ H O T F ds vs Q o r hg q => by
  cases ds with
  | nil =>
    cases hg
    obtain ⟨rfl, rfl⟩ := r
    exact ⟨rfl, q σ H O (by simpa using o) (by simpa using Stp.refl) ⟨rfl, fun _ _ => rfl⟩⟩
  | cons d ds => cases hg⟩
theorem sgs_cons {e : Expr} {es : List Expr} {ws ws' : List Nat} {g : D → Sl → Option Sl} {gs : List D → Sl → Option Sl} (hg : SG c J ws e g) (hgs : SGs c J ws' es gs)
    (hs : ∀ env : Env, (assignEach (e :: es) env).map (·.2) = assign e env :: (assignEach es env).map (·.2) := by intro _; rfl) : SGs c J (ws ++ ws') (e :: es) (gsCons g gs) := by
  obtain ⟨t, p, q⟩ := hg
  obtain ⟨ts, ps, qs⟩ := hgs
  refine ⟨fun W => gCons (t W) (ts W), fun W X hX tk => pgs_cons (p W X hX tk) (ps W X hX tk) (hs _), fun W s s' σ H O T F ds vs Q o r h k => ?_⟩
  cases ds with
  | nil => cases h
  | cons d ds =>
    unfold gsCons at h
    simp only [] at h
    split at h
    · rename_i s1 h1
      obtain ⟨v, vs', T1, T2, rfl, rfl, r1, r2⟩ := r
      refine ⟨v, vs', rfl, ?_⟩
      have eT : (T1 ++ T2 ++ F) = T1 ++ (T2 ++ F) := List.append_assoc _ _ _
      rw [eT] at o
      refine q W s s1 σ H O T1 (T2 ++ F) d v _ o (r1.anti fun a => by simp only [List.mem_append]; rintro (z | z | z | z) <;> simp [z]) h1 fun σ1 H1 O1 o1 st1 of1 => ?_
      have ndT : ∀ a ∈ T2, a ∉ T1 ++ O := fun a h2 z => by
        have nd := o.nd
        rcases List.mem_append.mp z with z | z
        · exact (List.nodup_append.mp (List.nodup_append.mp nd).2.1).2.2 a z a (List.mem_append_left _ h2) rfl
        · exact (List.nodup_append.mp nd).2.2 a z a (by simp [h2]) rfl
      have r2' : Rps c.K H1 (T2 ++ (O1 ++ F)) ds vs' T2 := by
        refine r2.mv (st1.mv (F := T2 ++ F) (O := T1 ++ O) (fun a ha => ?_) (L := T1 ++ T2 ++ (O ++ F)) (fun a ha => ?_) fun a ha => ?_) fun a ha hm => ?_
        · exact o.own a (by simp only [List.mem_append] at ha ⊢; rcases ha with (z | z) | z | z <;> simp [z])
        · simp only [List.mem_append] at ha ⊢
          rcases ha with z | z <;> simp [z]
        · simp only [List.mem_append] at ha ⊢
          rcases ha with z | z | z
          · exact .inl (.inl (.inr z))
          · exact .inr (.inr z)
          · exact .inl (.inr (.inr z))
        · simp only [if_true] at hm
          exact ndT a ha hm
      refine qs W s1 s' σ1 H1 O1 T2 F ds vs' _ o1 r2' h fun σ2 H2 O2 o2 st2 of2 => k σ2 H2 O2 o2 ?_ ⟨of2.1.trans of1.1, fun j hj => by rw [of2.2 j fun z => hj (List.mem_append_right _ z), of1.2 j fun z => hj (List.mem_append_left _ z)]⟩
      -- the two steps in a row
      refine ⟨fun a u ha n => ?_, by simp, fun a ha => ?_⟩
      · have n' := n rfl
        refine st2.keep a u (st1.keep a u ha fun _ z => n' ?_) fun _ z => ?_
        · simp only [List.mem_append] at z ⊢
          rcases z with z | z <;> simp [z]
        · rcases List.mem_append.mp z with z | z
          · exact n' (by simp [z])
          · rcases st1.newO a z with y | y
            · exact n' (by simp only [List.mem_append] at y ⊢; rcases y with y | y <;> simp [y])
            · rw [ha] at y; cases y
      · rcases st2.newO a ha with y | y
        · rcases List.mem_append.mp y with y | y
          · exact .inl (by simp [y])
          · rcases st1.newO a y with z | z
            · exact .inl (by simp only [List.mem_append] at z ⊢; rcases z with z | z <;> simp [z])
            · exact .inr z
        · by_cases m : a ∈ T1 ++ O
          · exact .inl (by simp only [List.mem_append] at m ⊢; rcases m with z | z <;> simp [z])
          · exact .inr (st1.free y m)
    · cases h
def gTp (n : Nat) (gs : List D → Sl → Option Sl) : D → Sl → Option Sl := fun d s => match d with
  | .tup ds => if ds.length = n then gs ds s else none
  | _ => none
theorem sg_tup {es : List Expr} {ws : List Nat} {k : Nat} {gs : List D → Sl → Option Sl} {n : Nat} {pos : Pos} (hc : c.calm = true) (h : SGs c J ws es gs) (hn : ∀ env : Env, (assignEach es env).length = n := by intro _; rfl)
    (hst : ∀ env : Env, (assignEach es env).findIdx? (·.1) = none := by intro _; rfl) : SG c J ws (.Tuple es k pos) (gTp n gs) := by
  obtain ⟨ts, ps, qs⟩ := h
  refine ⟨fun W => gTup c.K n (ts W), fun W X hX tk => ?_, fun W s s' σ H O T F d v Q o r hg k => ?_⟩
  · rw [← hX.K]
    exact pg_tup (by rw [hX.calm]; exact hc) (ps W X hX tk) (hn _) (hst _)
  · cases d with
    | tup ds =>
      unfold gTp at hg
      simp only [] at hg
      split at hg
      · rename_i hl
        obtain ⟨a, vs, rfl, h2, h3⟩ := r
        exact ⟨a, vs, rfl, h2, by rw [← h3.length]; exact hl, qs W s s' σ H O T F ds vs Q o h3 hg k⟩
      · cases hg
    | _ => cases hg
def sAsg (m : M Val) (g : D → Sl → Option Sl) : MS := fun s => match m s with
  | .ok (b, d) s' _ => if (b || noFz d) = true then (match g d s' with
    | some s2 => .nx s2
    | none => .bad) else .bad
  | .exc x s' => .exc x s'
  | .bad => .bad
theorem stp_asg {e1 : Bool} {H H1 H2 : Hp} {O T O1 O2 : List Addr} (p1 : Stp e1 H H1 O T O1) (st : Stp true H1 H2 (T ++ O1) [] O2) : Stp true H H2 O [] O2 := by
  have inO : ∀ a ∈ T ++ O1, a ∈ O ∨ H a = none := fun a h => by
    rcases List.mem_append.mp h with z | z
    · exact (p1.newT a z).imp (fun y => y.2) fun y => y
    · exact p1.newO a z
  refine ⟨fun a u h n => st.keep a u (p1.keep a u h fun _ => n rfl) fun _ z => ?_, by simp, fun a ha => ?_⟩
  · rcases inO a z with y | y
    · exact n rfl y
    · rw [h] at y; cases y
  · rcases st.newO a ha with y | y
    · exact inO a y
    · by_cases m : a ∈ O
      · exact .inl m
      · exact .inr (p1.free y m)
theorem snd_asg {t : WX → TE} {tg : WX → TG} {ws : List Nat} {m : M Val} {g : D → Sl → Option Sl} (q : SndE c J t m) (qg : SndG c J ws tg g) : SndS c J (fun W => tAsg (t W) (tg W)) (sAsg m g) := by
  intro W E s σ H O F o k
  refine q W s σ H O F _ o ?_
  unfold sAsg at k
  cases h1 : m s with
  | bad => rw [h1] at k; exact k
  | exc x s1 => rw [h1] at k; exact XP.stmt k
  | ok bd s1 e1 =>
    obtain ⟨b, d⟩ := bd
    rw [h1] at k
    intro v H1 T1 O1 r1 o1 p1
    simp only [] at k
    split at k
    · rename_i hb
      split at k
      · rename_i s2 hg
        exact qg W s1 s2 σ H1 O1 T1 F d v _ o1 (strict_of hb r1) hg fun σ' H' O' o' st _ => k σ' H' O' o' (stp_asg p1 st)
      · exact k.elim
    · exact k.elim
theorem ss_asg {tg e : Expr} {ws : List Nat} {m : M Val} {g : D → Sl → Option Sl} {pos : Pos} (he : SE c J e m) (hg : SG c J ws tg g) (hs : ∀ env : Env, env.scope = c.scope → swapsWithSole [tg] e pos.line env = pure false := by intro _ _; rfl) (hw : ∀ env : Env, env.scope = c.scope → swappedStores [tg] e env = pure none := by intro _ _; rfl)
    (h1 : ∀ env : Env, (assignEach [tg] env).map (·.2) = [assign tg env] := by intro _; rfl) : SS c J (.Assign [tg] e pos) (sAsg m g) := by
  obtain ⟨t, p, q⟩ := he
  obtain ⟨tg, pg, qg⟩ := hg
  exact ⟨_, fun W X hX tk => ps_asg (p W X hX tk) (pg W X hX tk) (hs _ hX.scope) (hw _ hX.scope) (h1 _), snd_asg q qg⟩
end
end VL
/-! VL 4a: promises of defs that are called where no repr runs -/
namespace VL
open PySem PySem.Spec L2
open PyProof.Rows

/-- as the kit's FnOk, for calls around which no guarded built-in runs -/
structure FnG (P : Program) (w : World) (K : Frag) (mg : Str → Option Value) (bs : Heap) (k : Nat) (f : Addr) (fd : FuncData) (ps : List Str) (sp : Sp) : Prop where
  len : ∀ vs H Q E, sp vs H Q E → vs.length = ps.length
  run : ∀ (A : Around) (ou : List Env) (s : Shared) (H : Hp) (ar : Args) (us : List Value) (vs : List V) (Q : VK) (E : XK), Room k A → A.guards = some [] → Env0 P w K mg bs A ou s H → BindsTo s fd ar (ps.zip us) →
    Vals vs us → sp vs H Q E → codeAny (model P w) A (.call (.ref f) ar) (CR (L2.CX P w) ou P w H s Q E) s
theorem FnG.mono {P : Program} {w : World} {K : Frag} {mg : Str → Option Value} {bs : Heap} {j k : Nat} {f : Addr} {fd : FuncData} {ps : List Str} {sp : Sp} (F : FnG P w K mg bs j f fd ps sp) (h : j ≤ k) : FnG P w K mg bs k f fd ps sp :=
  ⟨F.len, fun A ou s H ar us vs Q E r g => F.run A ou s H ar us vs Q E (r.mono h) g⟩
section
variable {P : Program} {w : World} {K : Frag} {mg : Str → Option Value} {bs : Heap} {x qual : Str} {params : Arguments} {body : List Stmt} {scope : Scope} {dvs : List V} {kws : List (Str × V)} {f : Addr} {fd : FuncData}
theorem fnG_of {N ps : List Str} {k : Nat} {sp : Sp} (F : FunD K x qual params body scope dvs kws f fd) (S : FnScope N ps scope) (len : ∀ vs H Q E, sp vs H Q E → vs.length = ps.length)
    (hb : ∀ (cdv : Value) (A : Around) (ou : List Env) (s : Shared) (H : Hp) (vs : List V) (Q : VK) (E : XK), Room k (A.deeper (envOfC qual scope s.heap.objs.size f cdv)) → A.guards = some [] → sp vs H Q E →
      ∃ t, PSs (cxOf (L2.CX P w) P w K mg bs N qual scope f cdv A ou s H E) body t ∧ t { nx := fun _ H' => Q .non H', rt := Q } (L2.start N vs) H) : FnG P w K mg bs (k + 1) f fd ps sp := by
  obtain ⟨oc, od, dV, kV, doc, pm, an, cdv, ct, osl, rfl, lk, hcd, _, _⟩ := F.ex
  refine ⟨len, fun A ou s H ar us vs Q E hr hg e0 hbd r hsp => ?_⟩
  have hl : vs.length = ps.length := len _ _ _ _ hsp
  have st : ∀ b o, bs.get? b = some o → s.heap.get? b = some o := fun b o e => (e0.bs b o e).1
  have KX : K.In s.heap := e0.mod.kin.keeps st
  have lim : s.heap.NoLimit := e0.mod.nolimit.keeps st
  have kinds : ∀ y ∈ ps.zip us, scope.names.lookup y.1 = some .local ∨ (scope.names.lookup y.1 = some .cell ∧ ((cellsFrom (s.heap.objs.size + 1) scope.names []).lookup y.1).isSome = true) := fun y hy =>
    (S.par y.1 (List.of_mem_zip (a := y.1) (b := y.2) hy).1).imp (fun q => q) fun q => ⟨q, PySem.W.cellsFrom_some _ _ _ (.inl q)⟩
  refine codeAny_call_function hr.depth (KX _ _ lk) rfl S.co S.gen rfl (PySem.W.codeRec_of KX hcd) (hbd _ _ _ _ (wpAny_newFunctionEnv_cells S.kind kinds fun env he s1 y => ?_))
  subst he
  refine ⟨lim.keeps y.toInCall.keep, codeAny_func ?_⟩
  obtain ⟨t, ht, hq⟩ := hb cdv A ou s H vs Q E (hr.deeper _) hg hsp
  have I0 := inv_start (CX := L2.CX P w) (E := E) S hr.hd e0 hl r y
  refine wpAny_mono (ht.run [] s1 (L2.start N vs) H _ I0 hq) (fun fl s2 hs => ?_) fun _ _ z => z
  cases fl with
  | ret u =>
    obtain ⟨v, σ2, H2, I2, rv, q2⟩ := hs
    exact ⟨v, H2, I2.os, I2.bare, I2.base, I2.hok, rv, q2⟩
  | next =>
    obtain ⟨σ2, H2, I2, q2⟩ := hs
    exact ⟨.non, H2, I2.os, I2.bare, I2.base, I2.hok, rfl, q2⟩
  | brk =>
    obtain ⟨_, _, _, z⟩ := hs
    exact z.elim
  | cont =>
    obtain ⟨_, _, _, z⟩ := hs
    exact z.elim
end
section
variable {X : Cx} {k : Nat} {f : Addr} {fd : FuncData} {ps : List Str} {sp : Sp}
theorem run_fnG {W : WX} {pins : List (Addr × Obj)} {σ : L2.St} {H : Hp} {s : Shared} {Q : VK} {ar : Args} {us : List Value} {vs : List V} (tk : Takes X W) (F : FnG X.prog X.w X.K X.mg X.base k f fd ps sp) (hr : Room k X.A) (hg : X.A.guards = some []) (hb : BindsTo s fd ar (ps.zip us))
    (I : Inv X pins σ H s) (r : Vals vs us) (h : sp vs H Q (WE W σ)) : codeAny (model X.prog X.w) X.A (.call (.ref f) ar) (fun r s' => match r with | .ok (.ret u) => EP X pins σ Q u s' | .ok _ => False | .error e => X.xe e s') s := by
  refine codeAny_mono (F.run X.A X.stack s H ar us vs Q (WE W σ) hr hg I.env0 hb r h) fun res s2 hq => ?_
  match res, hq with
  | .error e, hq => exact passAt tk σ pins H s e s2 I hq
  | .ok (.ret u), hq => exact I.after hq
  | .ok .next, hq => exact hq.elim
  | .ok .brk, hq => exact hq.elim
  | .ok .cont, hq => exact hq.elim
theorem pe_callG {W : WX} {x : Str} {p pos : Pos} {e : Expr} {es : List Expr} {t : TA} (tk : Takes X W) (F : FnG X.prog X.w X.K X.mg X.base k f fd ps sp) (hr : Room k X.A) (hg : X.A.guards = some []) (gx : Gl X x) (hm : X.mg x = some (.ref f)) (hk : PySem.W.keepIn X.K (.ref f) = true) (hb : Binds X.K fd ps [])
    (ha : PA X (e :: es) t) (hdb : (x == ("__debug__" : Str)) = false) (he : starEach (e :: es) X.env = (false, eval e X.env) :: starEach es X.env) (hpl : (backTo pos (starEach es X.env)).any (·.1) = false) : PE X (.Call (.Name x p) (e :: es) [] pos) (tCallS sp (WE W) t) := by
  refine ⟨fun pins s σ H Q I h => wpAny_Call_Name_kw (ld_glob I gx hm (PySem.W.callWith_K (h₀ := X.base) I.ok.mod.kin hk (thn (ha.run pos pins s σ H _ I h) fun us s1 z => ?_) he hpl) hdb)⟩
  obtain ⟨vs, H1, I1, r, q⟩ := z
  refine ⟨I1.kIn, wpAny_call ?_⟩
  have hl : us.length = ps.length := by
    rw [← r.length]
    exact F.len _ _ _ _ q
  have b : BindsTo s1 fd ⟨us, []⟩ (ps.zip us) := by
    have := hb s1 us I1.kIn (by simpa using hl)
    simpa using this
  refine codeAny_mono (run_fnG tk F hr hg b I1 r q) fun res s2 hq => ?_
  match res, hq with
  | .error e, hq => exact hq
  | .ok (.ret u), hq => exact hq
  | .ok .next, hq => exact hq.elim
  | .ok .brk, hq => exact hq.elim
  | .ok .cont, hq => exact hq.elim
end
/-- the law's promise, at the heap behind the top -/
theorem law_callG {P : Program} {w : World} {K : Frag} {mg mb : Str → Option Value} {k : Nat} {fa a : Addr} {fd : FuncData} {x : Str} {sp : Sp} {s1 : Shared} {vs : List Value} {ns : List Int}
    (KX : K.In s1.heap) (hns : s1.heap.Ns mainGlobals mg) (hb : s1.heap.Ns builtinsNs mb) (hbb : ∀ x : Str, x ≠ "__name__" → mb x = bootBuiltins x) (hlim : s1.heap.NoLimit) (hg : s1.gens = #[])
    (ha : s1.heap.get? a = some { cls := .type "list", data := .seq vs.toArray }) (hi : IntsAre vs ns) (hl : ns.length ≤ sizeLine) (hr : Room k callerA)
    (F : ∀ bs : Heap, K.In bs → bs.Ns mainGlobals mg → FnG P w K mg bs k fa fd [x] sp) (hbd : ∀ (s : Shared) (u : Value), BindsTo s fd ⟨[u], []⟩ [(x, u)])
    (hsp : ∀ H : Hp, Only H → SqL K H a (ns.map V.int) → sp [.ref a] H (fun v _ => v = .bl true) fun _ _ _ => False) :
    codeAny (model P w) callerA (.call (.ref fa) ⟨[.ref a], []⟩) (fun r s' => r = .ok (.ret (.bool true)) ∧ OldK s1.heap s'.heap ∧ s'.os = s1.os ∧ AllBare s'.gens) s1 := by
  have rv : Vals (ns.map V.int) vs := vals_ints hi
  have hz : (ns.map V.int).length ≤ sizeLine := by rw [List.length_map]; exact hl
  let so : Obj := { cls := .type "list", data := .seq vs.toArray }
  -- the abstract heap: at most the script, locked
  suffices h : ∃ H : Hp, (∀ b u, H b = some u → b = a ∧ u = .frz so (.lst (ns.map V.int)) ∧ K.lookup a = none) ∧ SqL K H a (ns.map V.int) by
    obtain ⟨H, hH, hS⟩ := h
    have hok : HOk P w H s1.heap := fun b u e => by
      obtain ⟨e1, e2, _⟩ := hH b u e
      rw [e1, e2]
      exact ⟨ha, hz, vs, _, rv, ha⟩
    have hO : Only H := fun b => by
      cases e : H b with
      | none => exact .inl rfl
      | some u => exact .inr ⟨so, _, by rw [(hH b u e).2.1]⟩
    have nd : ∀ {b : Addr} {o : Obj}, s1.heap.get? b = some o → (∀ es ep, o.data = .dict es ep → H b = none) := fun {b o} e es ep d => by
      cases q : H b with
      | none => rfl
      | some u =>
        have e1 := (hH b u q).1
        rw [e1, ha] at e
        cases e
        cases d
    have nsH : ∀ {b : Addr} {m : Str → Option Value}, s1.heap.Ns b m → (hidT s1.heap H).Ns b m := fun {b m} z => by
      obtain ⟨o, es, ep, e, d, r⟩ := z
      exact ⟨o, es, ep, hidT_get e (nd e es ep d), d, r⟩
    have KH : K.In (hidT s1.heap H) := fun b o e => hidT_get (KX b o e) (by
      cases q : H b with
      | none => rfl
      | some u =>
        obtain ⟨e1, _, e3⟩ := hH b u q
        rw [e1, e3] at e
        cases e)
    have lim : (hidT s1.heap H).NoLimit := by
      obtain ⟨mc, l1, l2⟩ := hlim
      exact ⟨mc, nsH l1, l2⟩
    have e0 : Env0 P w K mg (hidT s1.heap H) callerA [] s1 H := ⟨rfl, ⟨KH, nsH hns, ⟨mb, nsH hb, hbb⟩, lim⟩, fun _ _ e => of_hidT e, by rw [hidT_size]; exact Nat.le_refl _, trivial, (by intro b z; cases z), hok, .of_eq hg⟩
    refine codeAny_mono ((F _ KH (nsH hns)).run callerA [] s1 H ⟨[.ref a], []⟩ [.ref a] [.ref a] _ _ hr rfl e0 (hbd s1 (.ref a)) (.cons rfl .nil) (hsp H hO hS)) fun r s2 h => ?_
    match r, h with
    | .error e, h =>
      obtain ⟨_, _, _, _, _, _, _, _, _, _, _, _, z⟩ := h
      exact z.elim
    | .ok .next, h => exact h.elim
    | .ok .brk, h => exact h.elim
    | .ok .cont, h => exact h.elim
    | .ok (.ret u), h =>
      obtain ⟨v, H2, os, bare, un, hok2, r2, q⟩ := h
      have q : v = .bl true := q
      subst q
      have r2 : u = Value.bool true := r2
      subst r2
      refine ⟨rfl, OldK.of_keep fun b o e => ?_, os, bare⟩
      cases k : H b with
      | none => exact un.keep b o e k (by intro z; cases z) (by intro z; cases z)
      | some u =>
        obtain ⟨e1, e2, _⟩ := hH b u k
        rw [e2] at k
        have k2 := hok2 b _ (un.frzs b _ _ k)
        have k1 := hok b _ k
        rw [k1.1] at e
        cases e
        exact k2.1
  cases hk : K.lookup a with
  | some o =>
    have e := KX a o hk
    rw [ha] at e
    cases e
    exact ⟨fun _ => none, fun _ _ z => (by cases z), .inr ⟨so, vs.toArray, _, hk, rfl, rfl, rfl, by simpa [hi.length] using hl, by simpa using rv⟩⟩
  | none =>
    refine ⟨fun b => if b = a then some (.frz so (.lst (ns.map V.int))) else none, fun b u z => ?_, .inl (.inr ⟨so, if_pos rfl⟩)⟩
    have z : (if b = a then some (HO.frz so (.lst (ns.map V.int))) else none) = some u := z
    by_cases e : b = a
    · rw [if_pos e] at z
      cases z
      exact ⟨e, rfl, rfl⟩
    · rw [if_neg e] at z
      cases z
/-- a law: F gives the written part, the function object, the promise over every base -/
theorem walk_G {l : PySem.W.OpenLaw} {n k : Nat} {q : Program} {loose : List Str} {XP : (Str → Option Value) → Heap → Prop} {YP : World → Heap → Prop} {d : DefRec} {x : Str}
    (hn : l.most = some n) (hn2 : n ≤ sizeLine) (hdf : d.params.defaults = []) (hr : Room k callerA)
    (F : ∀ (w : World) (mg : Str → Option Value) (fa : Addr) (h : Heap), YP w h → h.Ns mainGlobals mg → mg d.name = some (.ref fa) →
      ∃ (K : Frag) (fd : FuncData) (sp : Sp), K.In h ∧ (∀ (s : Shared) (u : Value), BindsTo s fd ⟨[u], []⟩ [(x, u)]) ∧
        (∀ (H : Hp) (a : Addr) (ns : List Int), ns.length ≤ n → Only H → SqL K H a (ns.map V.int) → sp [.ref a] H (fun v _ => v = .bl true) fun _ _ _ => False) ∧
        ∀ bs : Heap, K.In bs → bs.Ns mainGlobals mg → FnG l.prog w K mg bs k fa fd [x] sp) :
    PySem.W.WalkO q loose XP YP l.row.toRowW d [] (fun f vs => PySem.call f vs) := by
  refine Att.attach_call hn hdf fun w s0 s1 mg mb fa o pm cd doc a vs ns G Y ho hd hcd hmg hobj hints hlen hg => ?_
  obtain ⟨K, fd, sp, KX, hb, hsp, hF⟩ := F w mg fa _ Y G.T.g hmg
  exact law_callG KX G.T.g G.T.b G.T.builtins G.T.nolimit hg hobj hints (Nat.le_trans hlen hn2) hr hF hb fun H hO hS => hsp H a ns hlen hO hS
end VL
/-! VL 5: defs, calls, loops -/
namespace VL
open PySem PySem.Spec L2
open PyProof.Rows (envOfC)

inductive FR where
  | ok (d : D) (io : List D)
  | exc (x : Exc) (io : List D)
  | bad
/-- what stands in the slots is -/
def pickIO : List Nat → Sl → Option (List D)
  | [], _ => some []
  | i :: is, s => match s[i]? with
    | some (some d) => (match pickIO is s with
      | some ds => some (d :: ds)
      | none => none)
    | _ => none
def putIO : List Nat → List D → Sl → Sl
  | i :: is, e :: es, s => (putIO is es (s.set i none)).set i (some e)
  | _, _, s => s
def PostF (K : Frag) (mg : Str → Option Value) (mask : List Nat) (vs : List V) (H : Hp) (O F : List Addr) (Q : VK) (E : XK) : FR → Prop
  | .ok d io => ∀ v H' T O', Rp K H' (T ++ (O' ++ F)) d v T → Own K [] H' (io.map some) (mask.map fun j => vs[j]?) O' (T ++ F) → Stp true H H' O T O' → Q v H'
  | .exc x io => ∀ cls dx H' O', XRp K mg H' (O' ++ F) x cls dx → Own K [] H' (io.map some) (mask.map fun j => vs[j]?) O' F → Stp true H H' O [] O' → E cls dx H'
  | .bad => False
/-- the promise of a def whose meaning is fm; mask: the parameters that it may change -/
def spV (K : Frag) (mg : Str → Option Value) (n : Nat) (mask : List Nat) (fm : List D → FR) : Sp := fun vs H Q E => ∃ ds O F, ds.length = n ∧ Own K [] H (ds.map some) (vs.map some) O F ∧ PostF K mg mask vs H O F Q E (fm ds)
/-- a body as a function of the arguments -/
def fnM (n : Nat) (mask : List Nat) (m : MS) (ds : List D) : FR :=
  match m (ds.map some ++ List.replicate (n - ds.length) none) with
  | .rt d s => (match pickIO mask s with
    | some io => .ok d io
    | none => .bad)
  | .nx s => (match pickIO mask s with
    | some io => .ok .non io
    | none => .bad)
  | .exc x s => (match pickIO mask s with
    | some io => .exc x io
    | none => .bad)
  | _ => .bad
section
variable {K : Frag} {H : Hp} {L : List Addr}
theorem pickIO_set {i : Nat} {y : Option D} : ∀ {is : List Nat} {s : Sl}, i ∉ is → pickIO is (s.set i y) = pickIO is s
  | [], _, _ => rfl
  | j :: is, s, h => by
    have hj : i ≠ j := fun e => h (by simp [e])
    unfold pickIO
    rw [List.getElem?_set_ne hj, pickIO_set (is := is) fun z => h (List.mem_cons_of_mem _ z)]
theorem putIO_other {i : Nat} : ∀ {is : List Nat} {es : List D} {s : Sl}, i ∉ is → (putIO is es s)[i]? = s[i]?
  | [], _, _, _ => by unfold putIO; rfl
  | _ :: _, [], _, _ => by unfold putIO; rfl
  | j :: is, e :: es, s, h => by
    have hj : j ≠ i := fun z => h (by simp [z])
    unfold putIO
    rw [List.getElem?_set_ne hj, putIO_other (is := is) fun z => h (List.mem_cons_of_mem _ z), List.getElem?_set_ne hj]
theorem RSl.picks {σ : St} : ∀ {is : List Nat} {s : Sl} {O : List Addr} {ds : List D}, is.Nodup → RSl K H L s σ O → pickIO is s = some ds →
    ∃ O1 O2, O.Perm (O1 ++ O2) ∧ RSl K H L (ds.map some) (is.map fun i => (σ[i]?).join) O1 ∧ ∀ {H' : Hp} {L' : List Addr} {es : List D} {U : List Addr}, es.length = is.length →
      (∀ d u T, (∀ a ∈ T, a ∈ O2) → Rp K H L d u T → Rp K H' L' d u T) → RSl K H' L' (es.map some) (is.map fun i => (σ[i]?).join) U → ∃ O3, O3.Perm (U ++ O2) ∧ RSl K H' L' (putIO is es s) σ O3
  | [], s, O, ds, _, r, h => by
    cases h
    refine ⟨[], O, .refl _, ⟨rfl, rfl⟩, fun {H' L' es U} hl tr q => ?_⟩
    cases es with
    | nil =>
      obtain ⟨_, rfl⟩ := q
      exact ⟨O, .refl _, r.map tr⟩
    | cons e es => simp at hl
  | i :: is, s, O, ds, nd, r, h => by
    obtain ⟨ni, nd'⟩ := List.nodup_cons.mp nd
    unfold pickIO at h
    split at h
    · rename_i d hd
      split at h
      · rename_i ds' hds
        cases h
        obtain ⟨v, O1, O2, h1, ⟨u, rfl, h2⟩, h3, h4⟩ := r.swap hd
        obtain ⟨O3, p3, r3⟩ := h4 (H' := H) (L' := L) (y := none) (w := some u) (U := []) (fun _ _ _ _ z => z) rfl
        rw [set_same h1] at r3
        obtain ⟨A1, A2, g1, g2, g3⟩ := RSl.picks (is := is) nd' r3 (by rw [pickIO_set ni]; exact hds)
        have p3' : O3.Perm O2 := by simpa using p3
        have hj : (σ[i]?).join = some u := by rw [h1]; rfl
        refine ⟨O1 ++ A1, A2, ?_, ⟨some u, _, O1, A1, by rw [List.map_cons, hj], rfl, ⟨u, rfl, h2⟩, g2⟩, fun {H' L' es U} hl tr q => ?_⟩
        · rw [List.append_assoc]
          exact h3.trans (List.Perm.append_left O1 (p3'.symm.trans g1))
        · cases es with
          | nil => simp at hl
          | cons e es =>
            obtain ⟨w, σ', U1, U2, e1, rfl, q1, q2⟩ := q
            rw [List.map_cons, hj] at e1
            cases e1
            obtain ⟨B, pB, rB⟩ := g3 (es := es) (by simpa using hl) tr q2
            have hn : (putIO is es (s.set i none))[i]? = some none := by
              rw [putIO_other ni, List.getElem?_set_self (List.getElem?_eq_some_iff.mp hd).1]
            obtain ⟨w', C1, C2, k1, k2, k3, k4⟩ := rB.swap hn
            have k2' : C1 = [] := k2
            subst k2'
            obtain ⟨E, pE, rE⟩ := k4 (H' := H') (L' := L') (y := some e) (w := some u) (U := U1) (fun _ _ _ _ z => z) q1
            rw [set_same h1] at rE
            refine ⟨E, ?_, rE⟩
            have : C2.Perm (U2 ++ A2) := (by simpa using k3.symm : C2.Perm B).trans pB
            refine pE.trans ?_
            rw [List.append_assoc]
            exact List.Perm.append_left U1 this
      · cases h
    · cases h
theorem RSl.join : ∀ {s : Sl} {σ : St} {O : List Addr}, RSl K H L s σ O → ∀ i, i < s.length → ∃ v, σ[i]? = some v
  | s, σ, O, r, i, h => by
    rw [r.length] at h
    exact ⟨σ[i], by simp [h]⟩
end

section
variable {P : Program} {w : World} {K : Frag} {mg : Str → Option Value} {base : Heap} {x qual : Str} {params : Arguments} {body : List Stmt} {scope : Scope} {dvs : List V} {kws : List (Str × V)} {f : Addr} {fd : FuncData}
abbrev ctxF (P : Program) (w : World) (K : Frag) (mg : Str → Option Value) (base : Heap) (N : List Str) (scope : Scope) (k : Nat) : Ctx :=
  { P := P, w := w, K := K, mg := mg, base := base, N := N, scope := scope, fn := fun _ => true, calm := true, top := true, k := k }
theorem inC_fn {N : List Str} {k : Nat} {cdv : Value} {A : Around} {outer : List Env} {s : Shared} {H : Hp} {E : XK} (hr : Room k (A.deeper (envOfC qual scope s.heap.objs.size f cdv))) (hg : A.guards = some []) :
    InC (ctxF P w K mg base N scope k) (cxOf (L2.CX P w) P w K mg base N qual scope f cdv A outer s H E) where
  prog := rfl
  w := rfl
  K := rfl
  mg := rfl
  base := rfl
  N := rfl
  scope := rfl
  calm := rfl
  fn := fun _ _ => rfl
  room := hr
  gd := hg
  top := fun _ => ⟨rfl, rfl, passes_of rfl⟩
theorem notPin_of {J : List (Nat × V)} {mask : List Nat} {i : Nat} (h : J.map (·.1) = mask) (hi : mask.contains i = false) : notPin J i := fun p hp e => by
  have : i ∈ mask := by rw [← h, ← e]; exact List.mem_map_of_mem hp
  rw [List.contains_eq_mem] at hi
  simp [this] at hi
/-- a def keeps its promise -/
theorem fnV_ok {N ps : List Str} {k : Nat} {mask : List Nat} {m : MS} (F : FunD K x qual params body scope dvs kws f fd) (S : FnScope N ps scope) (hmask : mask.all (fun j => decide (j < ps.length)) = true) (hnd : mask.Nodup) (hN : ps.length ≤ N.length)
    (hb : ∀ J : List (Nat × V), J.map (·.1) = mask → SSs (ctxF P w K mg base N scope k) J body m) : FnG P w K mg base (k + 1) f fd ps (spV K mg ps.length mask (fnM N.length mask m)) := by
  refine fnG_of F S (fun vs H Q E h => ?_) (fun cdv A outer s H vs Q E hr hg h => ?_)
  · obtain ⟨ds, O, F', h1, h2, _⟩ := h
    have := h2.rep.length
    simp only [List.length_map] at this
    rw [← this, h1]
  · obtain ⟨ds, O, F', h1, h2, q⟩ := h
    have hlen : vs.length = ps.length := by
      have := h2.rep.length
      simp only [List.length_map] at this
      rw [← this, h1]
    obtain ⟨ts, pt, qt⟩ := hb (mask.map fun j => (j, vs.getD j .non)) (by simp [Function.comp_def])
    refine ⟨ts (fun cls d _ H => E cls d H), pt _ _ (inC_fn hr hg) (takes_of rfl rfl rfl rfl), qt _ _ (ds.map some ++ List.replicate (N.length - ds.length) none) _ H O F' ?_ ?_⟩
    · refine ⟨?_, h2.nd, h2.fr, fun p hp => ?_⟩
      · have := RSl.append (h2.rep) (RSl.nones (K := K) (H := H) (L := O ++ F') (N.length - ds.length) (List.replicate (N.length - vs.length) none) (by rw [List.length_replicate, hlen, h1]))
        simpa [L2.start] using this
      · obtain ⟨j, hj, rfl⟩ := List.mem_map.mp hp
        have hj' : j < vs.length := by
          have := List.all_eq_true.mp hmask j hj
          rw [hlen]
          exact of_decide_eq_true this
        show (L2.start N vs)[j]? = _
        unfold L2.start
        rw [List.getElem?_append_left (by simpa using hj'), List.getElem?_map]
        simp [hj', List.getD_eq_getElem?_getD]
    · -- what comes of the body
      have pick : ∀ {s' : Sl} {σ' : St} {H' : Hp} {O' F2 : List Addr} {io : List D}, Own K (mask.map fun j => (j, vs.getD j .non)) H' s' σ' O' F2 → pickIO mask s' = some io →
          ∃ O2, (∀ a ∈ O2, a ∈ O') ∧ Own K [] H' (io.map some) (mask.map fun j => vs[j]?) O2 F2 := fun {s' σ' H' O' F2 io} o hp => by
        obtain ⟨O1, O2, g1, g2, _⟩ := o.rep.picks hnd hp
        have e : (mask.map fun i => (σ'[i]?).join) = mask.map fun j => vs[j]? := by
          refine List.map_congr_left fun j hj => ?_
          have h3 := o.pin (j, vs.getD j .non) (List.mem_map_of_mem (f := fun j => (j, vs.getD j .non)) hj)
          have hj' : j < vs.length := by
            have := List.all_eq_true.mp hmask j hj
            rw [hlen]
            exact of_decide_eq_true this
          show (σ'[j]?).join = vs[j]?
          rw [h3]
          simp [hj', List.getD_eq_getElem?_getD]
        rw [e] at g2
        refine ⟨O1, fun a ha => g1.symm.subset (List.mem_append_left _ ha), g2.anti fun a ha => ?_, ?_, o.fr, fun p hp => by cases hp⟩
        · rcases List.mem_append.mp ha with z | z
          · exact List.mem_append_left _ (g1.symm.subset (List.mem_append_left _ z))
          · exact List.mem_append_right _ z
        · have := (g1.append_right F2).nodup_iff.mp o.nd
          rw [List.append_assoc] at this
          exact nd_mid this
      have antiO : ∀ {O2 O' T : List Addr}, (∀ a ∈ O2, a ∈ O') → ∀ a ∈ T ++ (O2 ++ F'), a ∈ T ++ (O' ++ F') := fun {O2 O' T} h a ha => by
        simp only [List.mem_append] at ha ⊢
        rcases ha with z | z | z
        · exact .inl z
        · exact .inr (.inl (h a z))
        · exact .inr (.inr z)
      unfold fnM at q
      cases hm : m (ds.map some ++ List.replicate (N.length - ds.length) none) with
      | nx s1 =>
        rw [hm] at q
        simp only [] at q
        split at q
        · rename_i io hio
          intro σ' H' O' o st
          obtain ⟨O2, g, o2⟩ := pick o hio
          exact q .non H' [] O2 ⟨rfl, rfl⟩ (by simpa using o2) (st.sub (by simp) g)
        · exact q.elim
      | rt d s1 =>
        rw [hm] at q
        simp only [] at q
        split at q
        · rename_i io hio
          intro v σ' H' T O' r o st
          obtain ⟨O2, g, o2⟩ := pick o hio
          exact q v H' T O2 (r.anti (antiO g)) o2 (st.sub (fun _ z => z) g)
        · exact q.elim
      | exc x s1 =>
        rw [hm] at q
        simp only [] at q
        split at q
        · rename_i io hio
          intro cls dx σ' H' O' hx o st
          obtain ⟨O2, g, o2⟩ := pick o hio
          exact q cls dx H' O2 (hx.anti (by simpa using antiO (T := []) g)) o2 (st.sub (by simp) g)
        · exact q.elim
      | bk s1 => rw [hm] at q; exact q.elim
      | ct s1 => rw [hm] at q; exact q.elim
      | bad => rw [hm] at q; exact q.elim
end

section
variable {c : Ctx} {J : List (Nat × V)}
/-- behind a step that only made things -/
theorem fin_ext {H H1 H2 : Hp} {s1 : Sl} {σ : St} {O T1 O1 F T2 : List Addr} {b e1 : Bool} {d : D} {v : V} {Q : VK} {W : WX} (q : PostE c J W H σ O F Q (.ok (b || noFz d, d) s1 e1)) (o1 : Own c.K J H1 s1 σ O1 (T1 ++ F)) (p1 : Stp e1 H H1 O T1 O1)
    (ext : ∀ a u, H1 a = some u → H2 a = some u) (r2 : Rp c.K H2 (T2 ++ av b O1 F) d v T2) (nd2 : T2.Nodup) (nw : ∀ a ∈ T2, a ∈ T1 ∨ H1 a = none) : Q v H2 := by
  have own1 : ∀ a ∈ O1 ++ (T1 ++ F), ∃ u, H1 a = some u := fun a ha => OwnO.some (o1.own a ha)
  have nd1 := o1.nd
  have T2R : ∀ a ∈ T2, a ∉ O1 ++ F := fun a h z => by
    have z : a ∈ O1 ∨ a ∈ F := by simpa using z
    rcases nw a h with y | y
    · rcases z with z | z
      · exact (List.nodup_append.mp nd1).2.2 a z a (List.mem_append_left _ y) rfl
      · exact (List.nodup_append.mp (List.nodup_append.mp nd1).2.1).2.2 a y a z rfl
    · obtain ⟨u, e⟩ := own1 a (by rcases z with z | z <;> simp [z])
      rw [e] at y; cases y
  have nd3 : (O1 ++ (T2 ++ F)).Nodup := by
    refine nd_comm ?_
    refine List.nodup_append.mpr ⟨nd2, nd_mid nd1, fun a h b hb e => ?_⟩
    subst e
    exact T2R a h hb
  have o2 : Own c.K J H2 s1 σ O1 (T2 ++ F) := by
    refine ⟨o1.rep.mv (M := []) ⟨fun a u h _ => ext a u h, by simp, by simp, fun a ha => ?_⟩ (by simp), nd3, fun a ha => ?_, o1.pin⟩
    · simp only [List.mem_append] at ha ⊢
      rcases ha with z | z | z
      · exact .inl (.inl z)
      · rcases nw a z with y | y
        · exact .inl (.inr (.inl y))
        · exact .inr y
      · exact .inl (.inr (.inr z))
    · rcases List.mem_append.mp ha with z | z
      · exact r2.own a z
      · obtain ⟨u, e⟩ := own1 a (by simp [z])
        have := o1.fr a (List.mem_append_right _ z)
        rw [e] at this
        rw [ext a u e]
        exact this
  refine q v H2 T2 O1 ?_ o2 ⟨fun a u h n => ext a u (p1.keep a u h n), fun a h => ?_, p1.newO⟩
  · by_cases hb : b = true
    · subst hb; simpa using r2
    · have hb' : b = false := by simpa using hb
      subst hb'
      by_cases hn : noFz d = true
      · exact r2.loose hn
      · have : noFz d = false := by simpa using hn
        rw [this]
        exact r2
  · rcases nw a h with y | y
    · exact p1.newT a y
    · by_cases m : e1 = true ∧ a ∈ O
      · exact .inl m
      · refine .inr ?_
        cases k : H a with
        | none => rfl
        | some u => rw [p1.keep a u k fun z y => m ⟨z, y⟩] at y; cases y

/-! ### calls that change nothing of the caller's -/
def xCall (fm : List D → FR) (ma : M (Bool × List D)) : M Val := fun s => match ma s with
  | .ok (b, ds) s' e => (match fm (fzs ds) with
    | .ok d [] => .ok (b || noFz d, d) s' e
    | .exc x [] => if (b || noFzs (x.fs.map (·.2))) = true then .exc x s' else .bad
    | _ => .bad)
  | .exc x s' => .exc x s'
  | .bad => .bad
theorem Own.av_fr {K : Frag} {H : Hp} {s : Sl} {σ : St} {O T F : List Addr} (o : Own K J H s σ O (T ++ F)) (b : Bool) : (T ++ av b O F).Nodup ∧ ∀ a ∈ av b O F, OwnO (H a) := by
  constructor
  · unfold av
    cases b with
    | true => exact nd_comm o.nd
    | false => simpa using (List.nodup_append.mp o.nd).2.1
  · intro a ha
    rcases mem_av.mp ha with ⟨_, z⟩ | z
    · exact o.own a (List.mem_append_left _ z)
    · exact o.fr a (List.mem_append_right _ z)
theorem snd_call {ta : WX → TA} {ma : M (Bool × List D)} {fm : List D → FR} {n : Nat} (hn : ∀ s b ds s' e, ma s = .ok (b, ds) s' e → ds.length = n) (ha : SndA c J ta ma) : SndE c J (fun W => fun σ H Q => ta W σ H fun vs H1 => spV c.K c.mg n [] fm vs H1 Q (WE W σ)) (xCall fm ma) := by
  intro W s σ H O F Q o q
  refine ha W s σ H O F _ o ?_
  unfold xCall at q
  cases h1 : ma s with
  | bad => rw [h1] at q; exact q
  | exc x s1 => rw [h1] at q; exact q
  | ok bd s1 e1 =>
    obtain ⟨b, ds⟩ := bd
    rw [h1] at q
    intro vs H1 T1 O1 r1 o1 p1
    simp only [] at q
    obtain ⟨ndT, frT⟩ := o1.av_fr b
    have r0 : Rps c.K H1 (av b O1 F) (fzs ds) vs [] := r1.fz fun a ha => ⟨List.mem_append_right _ ha, fun z => (List.nodup_append.mp ndT).2.2 a z a ha rfl⟩
    refine ⟨fzs ds, [], av b O1 F, ?_, ⟨by simpa using RSl.of_Rps r0, by simpa using (List.nodup_append.mp ndT).2.1, frT, fun p hp => by cases hp⟩, ?_⟩
    · have := hn s b ds s1 e1 h1
      rw [← this, r0.length, r1.length]
    · cases h2 : fm (fzs ds) with
      | bad => rw [h2] at q; exact q.elim
      | ok d io =>
        rw [h2] at q
        cases io with
        | cons _ _ => exact q.elim
        | nil =>
          intro v H2 T2 O2 r2 o2 p2
          have e2 : O2 = [] := o2.rep.2
          subst e2
          refine fin_ext (T1 := T1) q o1 p1 (fun a u h => p2.keep a u h fun _ z => by cases z) (by simpa using r2) ?_ fun a h => .inr ?_
          · have := o2.nd
            exact (List.nodup_append.mp (by simpa using this : (T2 ++ av b O1 F).Nodup)).1
          · rcases p2.newT a h with y | y
            · exact absurd y.2 (by simp)
            · exact y
      | exc x io =>
        rw [h2] at q
        cases io with
        | cons _ _ => exact q.elim
        | nil =>
          simp only [] at q
          split at q
          · rename_i hb
            intro cls dx H2 O2 hx o2 p2
            have e2 : O2 = [] := o2.rep.2
            subst e2
            have ext : ∀ a u, H1 a = some u → H2 a = some u := fun a u h => p2.keep a u h fun _ z => by cases z
            refine q cls dx H2 O1 ?_ ⟨(o1.drop).rep.mv (M := []) ⟨fun a u h _ => ext a u h, by simp, by simp, fun a ha => .inl ha⟩ (by simp), o1.drop.nd, fun a ha => ?_, o1.pin⟩ ⟨fun a u h n => ext a u (p1.keep a u h fun z => n rfl), by simp, p1.newO⟩
            · obtain ⟨C, g1, g2, g3⟩ := hx
              refine ⟨C, g1, g2, g3.imp (fun z => z) fun ⟨a, us, k1, k2, k3⟩ => ⟨a, us, k1, k2, ?_⟩⟩
              cases b with
              | true => simpa [av] using k3
              | false => exact k3.loose (by simpa using hb)
            · have h := o1.fr a (List.mem_append_right _ ha)
              obtain ⟨u, e⟩ := OwnO.some h
              rw [e] at h
              rw [ext a u e]
              exact h
          · exact q.elim
/-- the callee: where it stands and what it promises -/
structure Cal (c : Ctx) (x : Str) (ps : List Str) (mask : List Nat) (fm : List D → FR) : Prop where
  ok : ∃ (f : Addr) (fd : FuncData) (j : Nat), FnG c.P c.w c.K c.mg c.base j f fd ps (spV c.K c.mg ps.length mask fm) ∧ j ≤ c.k ∧ c.mg x = some (.ref f) ∧ PySem.W.keepIn c.K (.ref f) = true ∧ Binds c.K fd ps []
theorem pe_of {X : Cx} (hX : InC c X) {W : WX} (tk : Takes X W) {x : Str} {p pos : Pos} {e : Expr} {es : List Expr} {ps : List Str} {mask : List Nat} {fm : List D → FR} {t : TA} (C : Cal c x ps mask fm) (hg : c.scope.names.lookup x = some .globalImplicit) (ha : PA X (e :: es) t)
    (hdb : (x == ("__debug__" : Str)) = false) (he : starEach (e :: es) X.env = (false, eval e X.env) :: starEach es X.env) (hpl : (backTo pos (starEach es X.env)).any (·.1) = false) :
    PE X (.Call (.Name x p) (e :: es) [] pos) (tCallS (spV c.K c.mg ps.length mask fm) (WE W) t) := by
  obtain ⟨f, fd, j, F, hj, h1, h2, h3⟩ := C.ok
  have F' : FnG X.prog X.w X.K X.mg X.base j f fd ps (spV c.K c.mg ps.length mask fm) := by
    rw [hX.prog, hX.w, hX.K, hX.mg, hX.base]; exact F
  exact pe_callG tk F' (hX.room.mono hj) hX.gd (by show X.env.scope.names.lookup x = _; rw [hX.scope]; exact hg) (by rw [hX.mg]; exact h1) (by rw [hX.K]; exact h2) (by rw [hX.K]; exact h3) ha hdb he hpl
theorem se_call {x : Str} {p pos : Pos} {e : Expr} {es : List Expr} {ps : List Str} {fm : List D → FR} {ma : M (Bool × List D)} (C : Cal c x ps [] fm) (hg : c.scope.names.lookup x = some .globalImplicit) (ha : SA c J (e :: es) ma) (hn : ∀ s b ds s' e, ma s = .ok (b, ds) s' e → ds.length = ps.length)
    (hdb : (x == ("__debug__" : Str)) = false := by decide) (he : ∀ env : Env, starEach (e :: es) env = (false, eval e env) :: starEach es env := by intro _; rfl) (hpl : ∀ env : Env, (backTo pos (starEach es env)).any (·.1) = false := by intro _; rfl) :
    SE c J (.Call (.Name x p) (e :: es) [] pos) (xCall fm ma) := by
  obtain ⟨ta, pa, qa⟩ := ha
  exact ⟨_, fun W X hX tk => pe_of hX tk C hg (pa W X hX tk) hdb (he _) (hpl _), snd_call hn qa⟩
end
end VL
/-! VL 6: calls that change the caller's, loops, comprehensions -/
namespace VL
open PySem PySem.Spec L2
section
variable {c : Ctx} {J : List (Nat × V)}

/-! ### arguments with places -/
inductive AD where
  | pl (i : Nat)
  | vl (d : D)
def BR (K : Frag) (H : Hp) (L : List Addr) (σ : St) : List AD → List V → List Addr → Prop
  | [], vs, T => vs = [] ∧ T = []
  | .pl i :: as, vs, T => ∃ v vs', vs = v :: vs' ∧ σ[i]? = some (some v) ∧ BR K H L σ as vs' T
  | .vl d :: as, vs, T => ∃ v vs' T1 T2, vs = v :: vs' ∧ T = T1 ++ T2 ∧ Rp K H L d v T1 ∧ BR K H L σ as vs' T2
theorem BR.anti {K : Frag} {H : Hp} {L L' : List Addr} {σ : St} (h : ∀ a ∈ L', a ∈ L) : ∀ {as : List AD} {vs : List V} {T : List Addr}, BR K H L σ as vs T → BR K H L' σ as vs T
  | [], _, _, r => r
  | .pl i :: as, _, _, r => by
    obtain ⟨v, vs', e1, e2, e3⟩ := r
    exact ⟨v, vs', e1, e2, BR.anti h e3⟩
  | .vl d :: as, _, _, r => by
    obtain ⟨v, vs', T1, T2, e1, e2, e3, e4⟩ := r
    exact ⟨v, vs', T1, T2, e1, e2, e3.anti h, BR.anti h e4⟩
def PostB (c : Ctx) (J : List (Nat × V)) (W : WX) (H : Hp) (σ : St) (O F : List Addr) (Q : List V → Hp → Prop) : R (List AD) → Prop
  | .ok as s' e => ∀ vs H' T O', BR c.K H' (T ++ (O' ++ F)) σ as vs T → Own c.K J H' s' σ O' (T ++ F) → Stp e H H' O T O' → Q vs H'
  | .exc x s' => XP c J W H σ O F x s'
  | .bad => False
def SndB (c : Ctx) (J : List (Nat × V)) (te : WX → TA) (m : M (List AD)) : Prop := ∀ W s σ H O F Q, Own c.K J H s σ O F → PostB c J W H σ O F Q (m s) → te W σ H Q
def SB (c : Ctx) (J : List (Nat × V)) (es : List Expr) (m : M (List AD)) : Prop := ∃ ta : WX → TA, (∀ W X, InC c X → Takes X W → PA X es (ta W)) ∧ SndB c J ta m
def bNil : M (List AD) := fun s => .ok [] s false
def bVl (ma : M Val) (mas : M (List AD)) : M (List AD) := fun s => match ma s with
  | .ok (b1, d) s1 e1 => if (b1 || noFz d) = true then (match mas s1 with
    | .ok as s2 e2 => .ok (.vl d :: as) s2 (e1 || e2)
    | .exc x s2 => .exc x s2
    | .bad => .bad) else .bad
  | .exc x s1 => .exc x s1
  | .bad => .bad
def bPl (i : Nat) (mas : M (List AD)) : M (List AD) := fun s => match s[i]? with
  | some (some _) => (match mas s with
    | .ok as s2 e2 => .ok (.pl i :: as) s2 e2
    | .exc x s2 => .exc x s2
    | .bad => .bad)
  | _ => .bad
theorem sb_nil : SB c J [] bNil := ⟨fun _ => tNil, fun _ _ _ _ => pa_nil, fun W s σ H O F Q o q => q [] H [] O ⟨rfl, rfl⟩ (by simpa using o) Stp.refl⟩
theorem sb_vl {e : Expr} {es : List Expr} {ma : M Val} {mas : M (List AD)} (ha : SE c J e ma) (has : SB c J es mas) (hs : ∀ env : Env, starEach (e :: es) env = (false, eval e env) :: starEach es env := by intro _; rfl) : SB c J (e :: es) (bVl ma mas) := by
  obtain ⟨ta, pa, qa⟩ := ha
  obtain ⟨tas, pas, qas⟩ := has
  refine ⟨_, fun W X hX tk => pa_cons (pa W X hX tk) (pas W X hX tk) (hs _), fun W s σ H O F Q o q => ?_⟩
  refine qa W s σ H O F _ o ?_
  unfold bVl at q
  cases h1 : ma s with
  | bad => rw [h1] at q; exact q
  | exc x s1 => rw [h1] at q; exact q
  | ok bd s1 e1 =>
    obtain ⟨b1, d⟩ := bd
    rw [h1] at q
    intro v H1 T1 O1 r1 o1 p1
    simp only [] at q
    split at q
    · rename_i hb
      refine qas W s1 σ H1 O1 (T1 ++ F) _ o1 ?_
      cases h2 : mas s1 with
      | bad => rw [h2] at q; exact q
      | exc x s2 => rw [h2] at q; exact XP.after q p1
      | ok as s2 e2 =>
        rw [h2] at q
        intro vs H2 T2 O2 r2 o2 p2
        refine q (v :: vs) H2 (T1 ++ T2) O2 ⟨v, vs, T1, T2, rfl, rfl, carry o1 r1 p2 (by simp [hb]) fun a ha => ?_, r2.anti fun a ha => ?_⟩ ?_ (p1.trans p2)
        · simp only [List.mem_append] at ha
          rcases ha with (z | z) | z | z
          · exact .inl z
          · exact .inr (.inr (.inl z))
          · exact .inr (.inr (.inr ⟨z, hb⟩))
          · exact .inr (.inl z)
        · simp only [List.mem_append] at ha ⊢
          rcases ha with (z | z) | z | z <;> simp [z]
        · have hp : (T2 ++ (T1 ++ F)).Perm (T1 ++ T2 ++ F) := by rw [List.append_assoc]; exact perm_mid
          refine ⟨o2.rep.anti fun a ha => ?_, ((List.Perm.append_left O2 hp).nodup_iff).mp o2.nd, fun a ha => o2.fr a (hp.symm.subset ha), o2.pin⟩
          rcases List.mem_append.mp ha with z | z
          · exact List.mem_append_left _ z
          · exact List.mem_append_right _ (hp.symm.subset z)
    · exact q.elim
theorem sb_pl (i : Nat) {x : Str} {pos : Pos} {es : List Expr} {mas : M (List AD)} (has : SB c J es mas) (hN : c.N[i]? = some x := by rfl) (hv : Vis c.scope x := by first | exact Or.inl rfl | exact Or.inr (Or.inl rfl) | exact Or.inr (Or.inr rfl))
    (hd : (x == ("__debug__" : Str)) = false := by decide) (hcd : (x == ("__classdict__" : Str)) = false := by decide) (hs : ∀ env : Env, starEach (.Name x pos :: es) env = (false, eval (.Name x pos) env) :: starEach es env := by intro _; rfl) : SB c J (.Name x pos :: es) (bPl i mas) := by
  obtain ⟨tas, pas, qas⟩ := has
  refine ⟨fun W => tCons (tVar i) (tas W), fun W X hX tk => pa_cons (pe_var (by rw [hX.N]; exact hN) (by rw [hX.scope]; exact hv) hd hcd) (pas W X hX tk) (hs _), fun W s σ H O F Q o q => ?_⟩
  unfold bPl at q
  split at q
  · rename_i d e
    obtain ⟨v, O1, O2, h1, h2, h3⟩ := own_get o e
    refine ⟨v, h1, qas W s σ H O F _ o ?_⟩
    cases hm : mas s with
    | bad => rw [hm] at q; exact q
    | exc x s2 => rw [hm] at q; exact q
    | ok as s2 e2 =>
      rw [hm] at q
      exact fun vs H' T O' r o' p => q (v :: vs) H' T O' ⟨v, vs, rfl, h1, r⟩ o' p
  · exact q.elim
/-- the arguments as the callee gets them: at the mask's places the slots' things, frozen ones elsewhere; is: the slots in order -/
def mkAr (mask : List Nat) : Nat → List AD → Sl → Option (List D × List Nat)
  | _, [], _ => some ([], [])
  | k, .pl i :: as, s => if mask.contains k = true then (match s[i]? with
      | some (some d) => (match mkAr mask (k + 1) as s with
        | some (ds, is) => some (d :: ds, i :: is)
        | none => none)
      | _ => none) else none
  | k, .vl d :: as, s => if mask.contains k = true then none else (match mkAr mask (k + 1) as s with
      | some (ds, is) => some (fz d :: ds, is)
      | none => none)
def xCallE (mask : List Nat) (fm : List D → FR) (ma : M (List AD)) : M Val := fun s => match ma s with
  | .ok as s' _ => (match mkAr mask 0 as s' with
    | some (ds, is) => if is.length = mask.length ∧ is.Nodup then (match fm ds with
      | .ok d io => if io.length = mask.length then .ok (true, d) (putIO is io s') true else .bad
      | .exc x io => if io.length = mask.length then .exc x (putIO is io s') else .bad
      | .bad => .bad) else .bad
    | none => .bad)
  | .exc x s' => .exc x s'
  | .bad => .bad
/-- the slots is, taken out, and the frozen values make the callee's slots -/
theorem mkAr_rep {K : Frag} {H : Hp} {σ : St} {L L' : List Addr} {mask : List Nat} (hL : ∀ a ∈ L', a ∈ L) : ∀ {as : List AD} {k : Nat} {s : Sl} {ds : List D} {is : List Nat} {vs : List V} {T O1 : List Addr} {es : List D}, mkAr mask k as s = some (ds, is) → BR K H L σ as vs T →
    (∀ a ∈ L', a ∉ T) → pickIO is s = some es → RSl K H L' (es.map some) (is.map fun i => (σ[i]?).join) O1 → RSl K H L' (ds.map some) (vs.map some) O1
  | [], k, s, ds, is, vs, T, O1, es, h, r, n, hp, q => by
    cases h
    obtain ⟨rfl, rfl⟩ := r
    cases hp
    exact q
  | .pl i :: as, k, s, ds, is, vs, T, O1, es, h, r, n, hp, q => by
    unfold mkAr at h
    split at h
    · split at h
      · rename_i d hd
        split at h
        · rename_i ds' is' h'
          cases h
          obtain ⟨v, vs', rfl, e2, e3⟩ := r
          unfold pickIO at hp
          rw [hd] at hp
          simp only [] at hp
          split at hp
          · rename_i es' hes
            cases hp
            obtain ⟨w, σ', U1, U2, q1, rfl, q2, q3⟩ := q
            rw [List.map_cons, e2] at q1
            cases q1
            exact ⟨some v, _, U1, U2, rfl, rfl, q2, mkAr_rep hL h' e3 n hes q3⟩
          · cases hp
        · cases h
      · cases h
    · cases h
  | .vl d :: as, k, s, ds, is, vs, T, O1, es, h, r, n, hp, q => by
    unfold mkAr at h
    split at h
    · cases h
    · split at h
      · rename_i ds' is' h'
        cases h
        obtain ⟨v, vs', T1, T2, rfl, rfl, e3, e4⟩ := r
        refine ⟨some v, _, [], O1, rfl, rfl, ⟨v, rfl, e3.fz fun a ha => ⟨hL a ha, fun z => n a ha (List.mem_append_left _ z)⟩⟩, mkAr_rep hL h' e4 (fun a ha z => n a ha (List.mem_append_right _ z)) hp q⟩
      · cases h
theorem mkAr_pick {mask : List Nat} : ∀ {as : List AD} {k : Nat} {s : Sl} {ds : List D} {is : List Nat}, mkAr mask k as s = some (ds, is) → ∃ es, pickIO is s = some es ∧ ds.length = as.length
  | [], k, s, ds, is, h => by cases h; exact ⟨[], rfl, rfl⟩
  | .pl i :: as, k, s, ds, is, h => by
    unfold mkAr at h
    split at h
    · split at h
      · rename_i d hd
        split at h
        · rename_i ds' is' h'
          cases h
          obtain ⟨es, h1, h2⟩ := mkAr_pick h'
          exact ⟨d :: es, by unfold pickIO; rw [hd, h1], by simp [h2]⟩
        · cases h
      · cases h
    · cases h
  | .vl d :: as, k, s, ds, is, h => by
    unfold mkAr at h
    split at h
    · cases h
    · split at h
      · rename_i ds' is' h'
        cases h
        obtain ⟨es, h1, h2⟩ := mkAr_pick h'
        exact ⟨es, h1, by simp [h2]⟩
      · cases h
/-- where the callee's changed parameters stand: the caller's slots -/
theorem mkAr_mask {K : Frag} {H : Hp} {σ : St} {L : List Addr} {mask : List Nat} : ∀ {as : List AD} {k : Nat} {s : Sl} {ds : List D} {is : List Nat} {vs : List V} {T : List Addr}, mkAr mask k as s = some (ds, is) → BR K H L σ as vs T →
    (is.map fun i => (σ[i]?).join) = ((List.range' k vs.length).filter fun j => mask.contains j).map fun j => vs[j - k]?
  | [], k, s, ds, is, vs, T, h, r => by
    cases h
    obtain ⟨rfl, rfl⟩ := r
    rfl
  | .pl i :: as, k, s, ds, is, vs, T, h, r => by
    unfold mkAr at h
    split at h
    · rename_i hk
      split at h
      · split at h
        · rename_i ds' is' h'
          cases h
          obtain ⟨v, vs', rfl, e2, e3⟩ := r
          have ih := mkAr_mask h' e3
          rw [List.map_cons, ih, e2, List.length_cons, List.range'_succ, List.filter_cons, if_pos hk, List.map_cons]
          simp only [Nat.sub_self, List.getElem?_cons_zero]
          show some v :: _ = some v :: _
          refine congrArg (some v :: ·) (List.map_congr_left fun j hj => ?_)
          have := (List.mem_range'_1.mp (List.mem_filter.mp hj).1).1
          rw [show j - k = (j - (k + 1)) + 1 by omega, List.getElem?_cons_succ]
        · cases h
      · cases h
    · cases h
  | .vl d :: as, k, s, ds, is, vs, T, h, r => by
    unfold mkAr at h
    split at h
    · cases h
    · rename_i hk
      split at h
      · rename_i ds' is' h'
        cases h
        obtain ⟨v, vs', T1, T2, rfl, rfl, e3, e4⟩ := r
        have ih := mkAr_mask h' e4
        rw [ih, List.length_cons, List.range'_succ, List.filter_cons, if_neg hk]
        refine List.map_congr_left fun j hj => ?_
        have := (List.mem_range'_1.mp (List.mem_filter.mp hj).1).1
        rw [show j - k = (j - (k + 1)) + 1 by omega, List.getElem?_cons_succ]
      · cases h
theorem BR.length {K : Frag} {H : Hp} {L : List Addr} {σ : St} : ∀ {as : List AD} {vs : List V} {T : List Addr}, BR K H L σ as vs T → as.length = vs.length
  | [], _, _, r => by simp [r.1]
  | .pl i :: as, _, _, r => by
    obtain ⟨v, vs', rfl, e2, e3⟩ := r
    simp [BR.length e3]
  | .vl d :: as, _, _, r => by
    obtain ⟨v, vs', T1, T2, rfl, e2, e3, e4⟩ := r
    simp [BR.length e4]
theorem RSl.lenIO {K : Frag} {H : Hp} {L : List Addr} {io : List D} {l : St} {O : List Addr} (r : RSl K H L (io.map some) l O) : io.length = l.length := by
  have := r.length
  simpa using this
theorem snd_callE {ta : WX → TA} {ma : M (List AD)} {mask : List Nat} {fm : List D → FR} {n : Nat} (hmask : ∀ m, m = n → ((List.range' 0 m).filter fun j => mask.contains j) = mask) (hn : ∀ s as s' e, ma s = .ok as s' e → as.length = n) (ha : SndB c J ta ma) :
    SndE c J (fun W => fun σ H Q => ta W σ H fun vs H1 => spV c.K c.mg n mask fm vs H1 Q (WE W σ)) (xCallE mask fm ma) := by
  intro W s σ H O F Q o q
  refine ha W s σ H O F _ o ?_
  unfold xCallE at q
  cases h1 : ma s with
  | bad => rw [h1] at q; exact q
  | exc x s1 => rw [h1] at q; exact q
  | ok as s1 e1 =>
    rw [h1] at q
    intro vs H1 T1 O1 r1 o1 p1
    simp only [] at q
    split at q
    · rename_i ds is hmk
      split at q
      · rename_i hlen
        obtain ⟨es, hp, hdl⟩ := mkAr_pick hmk
        have hvl : vs.length = n := by rw [← r1.length]; exact hn _ _ _ _ h1
        have hms : (is.map fun i => (σ[i]?).join) = mask.map fun j => vs[j]? := by
          have := mkAr_mask hmk r1
          rw [hmask vs.length hvl] at this
          simpa using this
        have od := o1.drop
        obtain ⟨OC, OR, g1, g2, g3⟩ := od.rep.picks hlen.2 hp
        have hndO : (OC ++ (OR ++ F)).Nodup := by
          have := (g1.append_right F).nodup_iff.mp od.nd
          rwa [List.append_assoc] at this
        have inO : ∀ a ∈ OC ++ (OR ++ F), a ∈ O1 ++ F := fun a ha => by
          simp only [List.mem_append] at ha ⊢
          rcases ha with z | z | z
          · exact .inl (g1.symm.subset (List.mem_append_left _ z))
          · exact .inl (g1.symm.subset (List.mem_append_right _ z))
          · exact .inr z
        have outO : ∀ a ∈ O1 ++ F, a ∈ OC ++ (OR ++ F) := fun a ha => by
          simp only [List.mem_append] at ha ⊢
          rcases ha with z | z
          · rcases List.mem_append.mp (g1.subset z) with y | y <;> simp [y]
          · simp [z]
        have nT : ∀ a ∈ OC ++ (OR ++ F), a ∉ T1 := fun a ha z => by
          have nd := o1.nd
          rcases List.mem_append.mp (inO a ha) with y | y
          · exact (List.nodup_append.mp nd).2.2 a y a (List.mem_append_left _ z) rfl
          · exact (List.nodup_append.mp (List.nodup_append.mp nd).2.1).2.2 a z a y rfl
        have rc : RSl c.K H1 (OC ++ (OR ++ F)) (ds.map some) (vs.map some) OC := mkAr_rep (fun a ha => List.mem_append_right _ (inO a ha)) hmk r1 nT hp (g2.anti inO)
        have oc : Own c.K [] H1 (ds.map some) (vs.map some) OC (OR ++ F) := ⟨rc, hndO, fun a ha => od.own a (inO a (List.mem_append_right _ ha)), fun p hp => by cases hp⟩
        refine ⟨ds, OC, OR ++ F, by rw [hdl, r1.length, hvl], oc, ?_⟩
        -- putting back what came out
        have back : ∀ {io : List D} {H2 : Hp} {T2 OC' : List Addr}, io.length = mask.length → Own c.K [] H2 (io.map some) (mask.map fun j => vs[j]?) OC' (T2 ++ (OR ++ F)) → Stp true H1 H2 OC T2 OC' →
            ∃ O2, Own c.K J H2 (putIO is io s1) σ O2 (T2 ++ F) ∧ Stp true H H2 O T2 O2 ∧ ∀ a ∈ O2 ++ F, a ∈ OC' ++ (OR ++ F) := fun {io H2 T2 OC'} hio o2 p2 => by
          have mv0 : Mv H1 H2 OC (O1 ++ F) (OC' ++ (T2 ++ (OR ++ F))) := by
            have := p2.mv (F := OR ++ F) oc.own (L := O1 ++ F) (L' := OC' ++ (T2 ++ (OR ++ F))) (fun a ha => inO a (List.mem_append_left _ ha)) fun a ha => by
              simp only [List.mem_append] at ha ⊢
              rcases ha with z | z | z | z
              · exact .inr (.inr z)
              · exact .inr (.inl z)
              · exact .inl (.inl (g1.symm.subset (List.mem_append_right _ z)))
              · exact .inl (.inr z)
            simpa using this
          obtain ⟨O2, pO2, rO2⟩ := g3 (H' := H2) (L' := OC' ++ (T2 ++ (OR ++ F))) (es := io) (U := OC') (by rw [hlen.1]; exact hio)
            (fun d u T hT r => r.mv mv0 fun a ha hm => (List.nodup_append.mp hndO).2.2 a hm a (List.mem_append_left _ (hT a ha)) rfl) (by rw [hms]; exact o2.rep)
          have sub : ∀ a ∈ O2 ++ (T2 ++ F), a ∈ OC' ++ (T2 ++ (OR ++ F)) := fun a ha => by
            simp only [List.mem_append] at ha ⊢
            rcases ha with z | z | z
            · rcases List.mem_append.mp (pO2.subset z) with y | y <;> simp [y]
            · simp [z]
            · simp [z]
          refine ⟨O2, ⟨rO2.anti sub, ?_, fun a ha => ?_, o1.pin⟩, ?_, fun a ha => ?_⟩
          · have h3 : (OC' ++ (T2 ++ (OR ++ F))).Perm (O2 ++ (T2 ++ F)) := by
              refine List.Perm.trans ?_ (pO2.symm.append_right (T2 ++ F))
              rw [List.append_assoc]
              exact List.Perm.append_left OC' perm_mid
            exact h3.nodup_iff.mp o2.nd
          · rcases List.mem_append.mp ha with z | z
            · exact o2.fr a (by simp [z])
            · exact o2.fr a (by simp [z])
          · have k := p1.trans (q := (⟨fun a u h n => p2.keep a u h fun _ z => n rfl (g1.symm.subset (List.mem_append_left _ z)), fun a h => ?_, fun a h => ?_⟩ : Stp true H1 H2 O1 T2 O2))
            · exact (k.sub (fun a h => List.mem_append_right _ h) fun _ z => z).mono fun _ => rfl
            · exact (p2.newT a h).imp (fun z => ⟨rfl, g1.symm.subset (List.mem_append_left _ z.2)⟩) fun z => z
            · rcases List.mem_append.mp (pO2.subset h) with y | y
              · exact (p2.newO a y).imp (fun z => g1.symm.subset (List.mem_append_left _ z)) fun z => z
              · exact .inl (g1.symm.subset (List.mem_append_right _ y))
          · simp only [List.mem_append] at ha ⊢
            rcases ha with z | z
            · rcases List.mem_append.mp (pO2.subset z) with y | y <;> simp [y]
            · simp [z]
        cases h2 : fm ds with
        | bad => rw [h2] at q; exact q.elim
        | ok d io =>
          rw [h2] at q
          simp only [] at q
          split at q
          · rename_i hio
            intro v H2 T2 OC' r2 o2 p2
            obtain ⟨O2, k1, k2, k3⟩ := back hio o2 p2
            refine q v H2 T2 O2 (r2.anti fun a ha => ?_) k1 k2
            simp only [av, if_true] at ha
            rcases List.mem_append.mp ha with z | z
            · exact List.mem_append_left _ z
            · exact List.mem_append_right _ (k3 a z)
          · exact q.elim
        | exc x io =>
          rw [h2] at q
          simp only [] at q
          split at q
          · rename_i hio
            intro cls dx H2 OC' hx o2 p2
            obtain ⟨O2, k1, k2, k3⟩ := back (T2 := []) hio (by simpa using o2) p2
            exact q cls dx H2 O2 (hx.anti k3) (by simpa using k1) k2
          · exact q.elim
      · exact q.elim
    · exact q.elim
theorem se_callE {x : Str} {p pos : Pos} {e : Expr} {es : List Expr} {ps : List Str} {mask : List Nat} {fm : List D → FR} {ma : M (List AD)} (C : Cal c x ps mask fm) (hg : c.scope.names.lookup x = some .globalImplicit) (ha : SB c J (e :: es) ma) (hn : ∀ s as s' e, ma s = .ok as s' e → as.length = ps.length)
    (hmask : ((List.range' 0 ps.length).filter fun j => mask.contains j) = mask := by decide)
    (hdb : (x == ("__debug__" : Str)) = false := by decide) (he : ∀ env : Env, starEach (e :: es) env = (false, eval e env) :: starEach es env := by intro _; rfl) (hpl : ∀ env : Env, (backTo pos (starEach es env)).any (·.1) = false := by intro _; rfl) :
    SE c J (.Call (.Name x p) (e :: es) [] pos) (xCallE mask fm ma) := by
  obtain ⟨ta, pa, qa⟩ := ha
  exact ⟨_, fun W X hX tk => pe_of hX tk C hg (pa W X hX tk) hdb (he _) (hpl _), snd_callE (fun m e => by rw [e]; exact hmask) hn qa⟩
end
end VL
/-! VL 7: loops, comprehensions -/
namespace VL
open PySem PySem.Spec L2

/-- an iterator that gives these items while S holds -/
structure ItOk (K : Frag) (Jt : It) (items : List D) (S : Hp → List Addr → Prop) : Prop where
  walk : ∃ Y, Walk Jt items.length (fun H => ∃ L, S H L) Y ∧ ∀ i H L x H' d, S H L → Y i H x H' → items[i]? = some d → (∀ a u, H a = some u → H' a = some u) ∧ Rp K H' L d x []
  mv : ∀ {H H' : Hp} {M L L' : List Addr}, S H L → Mv H H' M L L' → S H' L'
def PostI (c : Ctx) (J : List (Nat × V)) (W : WX) (H : Hp) (σ : St) (O F : List Addr) (Q : It → Hp → Prop) : R (List D) → Prop
  | .ok items s' e => ∀ Jt H' O' S, ItOk c.K Jt items S → S H' (O' ++ F) → Own c.K J H' s' σ O' F → Stp e H H' O [] O' → Q Jt H'
  | .exc x s' => XP c J W H σ O F x s'
  | .bad => False
def SndI (c : Ctx) (J : List (Nat × V)) (wi : WX → TI) (m : M (List D)) : Prop := ∀ W s σ H O F Q, Own c.K J H s σ O F → PostI c J W H σ O F Q (m s) → wi W σ H Q
def SI (c : Ctx) (J : List (Nat × V)) (tg iter : Expr) (m : M (List D)) : Prop := ∃ wi : WX → TI, (∀ W X, InC c X → Takes X W → PI X tg iter (wi W)) ∧ SndI c J wi m
theorem fzs_get : ∀ {ds : List D} {i : Nat} {d : D}, (fzs ds)[i]? = some d → ∃ d0, ds[i]? = some d0 ∧ d = fz d0
  | [], _, _, h => by simp [fzs] at h
  | e :: _, 0, _, h => ⟨e, rfl, by simpa [fzs] using h.symm⟩
  | _ :: ds, i + 1, d, h => by
    obtain ⟨d0, h1, h2⟩ := fzs_get (ds := ds) (i := i) (d := d) (by simpa [fzs] using h)
    exact ⟨d0, by simpa using h1, h2⟩
theorem Rps.free_get {K : Frag} {H : Hp} {L : List Addr} {ds : List D} {vs : List V} {i : Nat} {d : D} {v : V} (r : Rps K H L ds vs []) (h : ds[i]? = some d) (hv : vs[i]? = some v) : Rp K H L d v [] := by
  obtain ⟨v', T1, h1, h2, h3⟩ := r.get h
  rw [hv] at h1
  cases h1
  have : T1 = [] := List.eq_nil_of_sublist_nil h3
  subst this
  exact h2
theorem itok_list {K : Frag} {a : Addr} {vs : List V} {ds : List D} (hl : ds.length = vs.length) : ItOk K (Itl K a) ds (fun H L => FzL H L a vs ∧ Rps K H L ds vs []) where
  walk := ⟨YAt vs, by
    rw [hl]
    exact walk_list.mono (fun H ⟨L, h⟩ => h.1.sq) fun _ _ _ _ _ _ y => y, fun i H L x H' d h y hd => by
    obtain ⟨rfl, hx⟩ := y
    exact ⟨fun _ _ h => h, h.2.free_get hd hx⟩⟩
  mv := fun h m => ⟨m.fzl h.1, h.2.mv m (by simp)⟩
theorem itok_wl {K : Frag} {a : Addr} {vs : List V} {ds : List D} (hl : ds.length = vs.length) : ItOk K (Itl K a) ds (fun H L => WlL K H a vs ∧ Rps K H L ds vs []) where
  walk := ⟨YAt vs, by
    rw [hl]
    exact walk_list.mono (fun H ⟨L, h⟩ => h.1.sq) fun _ _ _ _ _ _ y => y, fun i H L x H' d h y hd => by
    obtain ⟨rfl, hx⟩ := y
    exact ⟨fun _ _ h => h, h.2.free_get hd hx⟩⟩
  mv := fun h m => ⟨m.wl h.1, h.2.mv m (by simp)⟩
theorem itok_tup {K : Frag} {a : Addr} {vs : List V} {ds : List D} (hl : ds.length = vs.length) : ItOk K (Itt K a) ds (fun H L => SqT K H a vs ∧ Rps K H L ds vs []) where
  walk := ⟨YAt vs, by
    rw [hl]
    exact walk_tup.mono (fun H ⟨L, h⟩ => h.1) fun _ _ _ _ _ _ y => y, fun i H L x H' d h y hd => by
    obtain ⟨rfl, hx⟩ := y
    exact ⟨fun _ _ h => h, h.2.free_get hd hx⟩⟩
  mv := fun h m => ⟨m.tup h.1, h.2.mv m (by simp)⟩
def rngD (lo : Int) (n : Nat) : List D := (List.range n).map fun (i : Nat) => D.int (lo + (i : Int))
theorem itok_rng {K : Frag} {lo : Int} {n : Nat} : ItOk K (Itr lo n) (rngD lo n) (fun _ _ => True) where
  walk := ⟨YFn fun i => .int (lo + i), by
    rw [show (rngD lo n).length = n by simp [rngD]]
    exact walk_range.mono (fun _ _ => trivial) fun _ _ _ _ _ _ y => y, fun i H L x H' d _ y hd => by
    obtain ⟨rfl, rfl⟩ := y
    refine ⟨fun _ _ h => h, ?_⟩
    unfold rngD at hd
    rw [List.getElem?_map] at hd
    cases hr : (List.range n)[i]? with
    | none => rw [hr] at hd; cases hd
    | some j =>
      rw [hr] at hd
      have hj : j = i := by
        have := List.getElem?_eq_some_iff.mp hr
        obtain ⟨h1, h2⟩ := this
        rw [List.getElem_range] at h2
        exact h2.symm
      subst hj
      cases hd
      exact ⟨rfl, rfl⟩⟩
  mv := fun _ _ => trivial
def strD (z : Str) : List D := z.cps.toList.map fun c => D.str ⟨#[c]⟩
theorem itok_str {K : Frag} {z : Str} : ItOk K (Its z) (strD z) (fun _ _ => True) where
  walk := ⟨_, by
    rw [show (strD z).length = z.cps.size by simp [strD]]
    exact (walk_str (z := z)).mono (fun _ _ => trivial) fun _ _ _ _ _ _ y => y, fun i H L x H' d _ y hd => by
    obtain ⟨rfl, c, hc, rfl⟩ := y
    refine ⟨fun _ _ h => h, ?_⟩
    unfold strD at hd
    rw [List.getElem?_map, Array.getElem?_toList, hc] at hd
    cases hd
    exact ⟨rfl, rfl⟩⟩
  mv := fun _ _ => trivial
def pairD (xs ys : List D) : List D := List.zipWith (fun x y => D.tup [x, y]) xs ys
theorem Rp.pair {K : Frag} {H : Hp} {L : List Addr} {d1 d2 : D} {x y : V} {T : Addr} (hT : H T = none) (h1 : Rp K H L d1 x []) (h2 : Rp K H L d2 y []) : Rp K (upd H T (.tup [x, y])) L (.tup [d1, d2]) (.ref T) [] :=
  ⟨T, [x, y], rfl, SqT.of upd_same, x, [y], [], [], rfl, rfl, h1.ext (upd_ext hT) (fun a h => .inl h), y, [], [], [], rfl, rfl, h2.ext (upd_ext hT) (fun a h => .inl h), rfl, rfl⟩
theorem pairD_get {xs ys : List D} {i : Nat} {d : D} (h : (pairD xs ys)[i]? = some d) : ∃ x y, xs[i]? = some x ∧ ys[i]? = some y ∧ d = .tup [x, y] := by
  unfold pairD at h
  rw [List.getElem?_zipWith] at h
  cases hx : xs[i]? with
  | none => rw [hx] at h; cases h
  | some x =>
    cases hy : ys[i]? with
    | none => rw [hx, hy] at h; cases h
    | some y =>
      rw [hx, hy] at h
      cases h
      exact ⟨x, y, rfl, rfl, rfl⟩
def enumD (ds : List D) : List D := pairD (rngD 0 ds.length) ds
theorem rngD_get {lo : Int} {n i : Nat} {d : D} (h : (rngD lo n)[i]? = some d) : d = .int (lo + i) ∧ i < n := by
  unfold rngD at h
  rw [List.getElem?_map] at h
  cases hr : (List.range n)[i]? with
  | none => rw [hr] at h; cases h
  | some j =>
    rw [hr] at h
    obtain ⟨h1, h2⟩ := List.getElem?_eq_some_iff.mp hr
    rw [List.getElem_range] at h2
    subst h2
    cases h
    exact ⟨rfl, by simpa using h1⟩
theorem enumD_len (ds : List D) : (enumD ds).length = ds.length := by simp [enumD, pairD, rngD]
theorem itok_enum {K : Frag} {a : Addr} {vs : List V} {ds : List D} (hl : ds.length = vs.length) : ItOk K (Ite K a) (enumD ds) (fun H L => FzL H L a vs ∧ Rps K H L ds vs []) where
  walk := ⟨_, by
    rw [enumD_len, hl]
    exact (walk_enum (xs := vs)).mono (fun H ⟨L, h⟩ => h.1.sq) fun _ _ _ _ _ _ y => y, fun i H L x H' d h y hd => by
    obtain ⟨T, u, w, rfl, hT, rfl, h1, h2⟩ := y
    obtain ⟨p, q, g1, g2, rfl⟩ := pairD_get hd
    obtain ⟨rfl, _⟩ := rngD_get g1
    cases h1
    refine ⟨upd_ext hT, Rp.pair hT ⟨by simp, rfl⟩ (h.2.free_get g2 h2)⟩⟩
  mv := fun h m => ⟨m.fzl h.1, h.2.mv m (by simp)⟩
theorem itok_zip {K : Frag} {a b : Addr} {vs ws : List V} {ds es : List D} (hl : ds.length = vs.length) (hm : es.length = ws.length) :
    ItOk K (Itz K a b) (pairD ds es) (fun H L => (FzL H L a vs ∧ Rps K H L ds vs []) ∧ FzL H L b ws ∧ Rps K H L es ws []) where
  walk := ⟨_, by
    refine (walk_zip (xs := vs) (ys := ws) (n := (pairD ds es).length) (by simp [pairD, hl, hm])).mono (fun H ⟨L, h⟩ => ⟨h.1.1.sq, h.2.1.sq⟩) fun _ _ _ _ _ _ y => y, fun i H L x H' d h y hd => by
    obtain ⟨T, u, w, rfl, hT, rfl, h1, h2⟩ := y
    obtain ⟨p, q, g1, g2, rfl⟩ := pairD_get hd
    exact ⟨upd_ext hT, Rp.pair hT (h.1.2.free_get g1 h1) (h.2.2.free_get g2 h2)⟩⟩
  mv := fun h m => ⟨⟨m.fzl h.1.1, h.1.2.mv m (by simp)⟩, m.fzl h.2.1, h.2.2.mv m (by simp)⟩

section
variable {c : Ctx} {J : List (Nat × V)}
/-- a strict value, frozen -/
theorem froze {K : Frag} {H : Hp} {s : Sl} {σ : St} {T O F : List Addr} {d : D} {v : V} (o : Own K J H s σ O (T ++ F)) (r : Rp K H (T ++ (O ++ F)) d v T) : Rp K H (O ++ F) (fz d) v [] := r.fz fun a ha => by
  refine ⟨List.mem_append_right _ ha, fun z => ?_⟩
  have nd := o.nd
  rcases List.mem_append.mp ha with y | y
  · exact (List.nodup_append.mp nd).2.2 a y a (List.mem_append_left _ z) rfl
  · exact (List.nodup_append.mp (List.nodup_append.mp nd).2.1).2.2 a z a y rfl
theorem frozes {K : Frag} {H : Hp} {s : Sl} {σ : St} {T O F : List Addr} {ds : List D} {vs : List V} (o : Own K J H s σ O (T ++ F)) (r : Rps K H (T ++ (O ++ F)) ds vs T) : Rps K H (O ++ F) (fzs ds) vs [] := r.fz fun a ha => by
  refine ⟨List.mem_append_right _ ha, fun z => ?_⟩
  have nd := o.nd
  rcases List.mem_append.mp ha with y | y
  · exact (List.nodup_append.mp nd).2.2 a y a (List.mem_append_left _ z) rfl
  · exact (List.nodup_append.mp (List.nodup_append.mp nd).2.1).2.2 a z a y rfl
theorem fzs_length : ∀ ds : List D, (fzs ds).length = ds.length
  | [] => rfl
  | d :: ds => by simp [fzs, fzs_length ds]
/-- a list, a tuple or a text is walked -/
def iSeq (m : M Val) : M (List D) := fun s => match m s with
  | .ok (b, d) s' e => if (b || noFz d) = true then (match d with
    | .lst _ xs => .ok (fzs xs) s' e
    | .wl xs => .ok (fzs xs) s' e
    | .tup xs => .ok (fzs xs) s' e
    | .str z => .ok (strD z) s' e
    | _ => .bad) else .bad
  | .exc x s' => .exc x s'
  | .bad => .bad
def wSeq (K : Frag) (tl : TE) : TI := fun σ H R => tl σ H fun x H1 => (∃ a, x = .ref a ∧ (∃ xs, SqL K H1 a xs) ∧ R (Itl K a) H1) ∨ (∃ a, x = .ref a ∧ (∃ xs, SqT K H1 a xs) ∧ R (Itt K a) H1) ∨ ∃ z, x = .str z ∧ R (Its z) H1
theorem one_it {X : Cx} {pins : List (Addr × Obj)} {σ : St} {H : Hp} {s : Shared} (I : Inv X pins σ H s) : ∀ b ∈ [s.heap.objs.size], FpOk X pins H b := fun b hb => by
  rw [List.mem_singleton] at hb
  rw [hb]
  exact I.fpOk (Nat.le_refl _) (I.hok.fresh (Nat.le_refl _))
theorem pi_seq {X : Cx} {tg l : Expr} {tl : TE} (hl : PE X l tl) : PI X tg l (wSeq X.K tl) := by
  refine ⟨fun pins s σ H R I h => thn (hl.run pins s σ H _ I h) fun v s1 z => ?_⟩
  obtain ⟨x, H1, I1, r1, q⟩ := z
  have kp : ∀ o : Obj, Inv X pins σ H1 { s1 with heap := s1.heap.push o } := fun o => I1.kept (t' := s1.toks) fun b u e => Heap.get?_push_of_some _ e
  rcases q with ⟨a, rfl, ⟨xs, hq⟩, q⟩ | ⟨a, rfl, ⟨xs, hq⟩, q⟩ | ⟨z, rfl, q⟩
  · cases r1
    obtain ⟨its, _, pl, _⟩ := I1.list hq
    exact wpAny_pyIter_list pl.isList ⟨_, _, _, _, H1, rfl, kp _, turn_list a _, ⟨_, Heap.get?_push_size _ rfl, rfl, rfl⟩, one_it I1, q⟩
  · cases r1
    obtain ⟨its, _, pl, _⟩ := I1.tuple hq
    exact wpAny_pyIter_tuple pl ⟨_, _, _, _, H1, rfl, kp _, turn_tuple a _, ⟨_, Heap.get?_push_size _ rfl, rfl, rfl⟩, one_it I1, q⟩
  · obtain ⟨t, rfl⟩ := r1
    cases ha : z.cps.all (· < 128)
    · exact wpAny_pyIter_wide ha ⟨_, _, _, _, H1, rfl, kp _, turn_str _ z t _ (.inr rfl), ⟨_, Heap.get?_push_size _ rfl, rfl, rfl⟩, one_it I1, q⟩
    · exact wpAny_pyIter_ascii ha ⟨_, _, _, _, H1, rfl, kp _, turn_str _ z t _ (.inl rfl), ⟨_, Heap.get?_push_size _ rfl, rfl, rfl⟩, one_it I1, q⟩
theorem si_seq {tg e : Expr} {m : M Val} (h : SE c J e m) : SI c J tg e (iSeq m) := by
  obtain ⟨t, p, q⟩ := h
  refine ⟨fun W => wSeq c.K (t W), fun W X hX tk => by rw [← hX.K]; exact pi_seq (p W X hX tk), fun W s σ H O F Q o k => q W s σ H O F _ o ?_⟩
  unfold iSeq at k
  cases h1 : m s with
  | bad => rw [h1] at k; exact k
  | exc x s1 => rw [h1] at k; exact k
  | ok bd s1 e1 =>
    obtain ⟨b, d⟩ := bd
    rw [h1] at k
    intro v H1 T1 O1 r1 o1 p1
    simp only [] at k
    split at k
    · rename_i hb
      have r := froze o1 (strict_of hb r1)
      have od := o1.drop
      have pd := p1.sub (T' := []) (by simp) fun _ z => z
      split at k
      · obtain ⟨a, vs, rfl, h2, _, h3⟩ := r
        exact .inl ⟨a, rfl, ⟨vs, h2.sq⟩, k _ H1 O1 _ (itok_list h3.length) ⟨h2, h3⟩ od pd⟩
      · obtain ⟨a, vs, rfl, h2, _, h3⟩ := r
        exact .inl ⟨a, rfl, ⟨vs, h2.sq⟩, k _ H1 O1 _ (itok_wl h3.length) ⟨h2, h3⟩ od pd⟩
      · obtain ⟨a, vs, rfl, h2, h3⟩ := r
        exact .inr (.inl ⟨a, rfl, ⟨vs, h2⟩, k _ H1 O1 _ (itok_tup h3.length) ⟨h2, h3⟩ od pd⟩)
      · obtain ⟨rfl, _⟩ := r
        exact .inr (.inr ⟨_, rfl, k _ H1 O1 _ itok_str trivial od pd⟩)
      · exact k.elim
    · exact k.elim
def iR1 (m : M (Bool × List D)) : M (List D) := fun s => match m s with
  | .ok (_, [.int j]) s' e => if i62 j = true then .ok (rngD 0 j.toNat) s' e else .bad
  | .ok _ _ _ => .bad
  | .exc x s' => .exc x s'
  | .bad => .bad
def iR2 (m : M (Bool × List D)) : M (List D) := fun s => match m s with
  | .ok (_, [.int i, .int j]) s' e => if i62 i = true ∧ i62 j = true then .ok (rngD i (j - i).toNat) s' e else .bad
  | .ok _ _ _ => .bad
  | .exc x s' => .exc x s'
  | .bad => .bad
theorem si_range1 {tg a : Expr} {p pos : Pos} {m : M (Bool × List D)} (hg : c.scope.names.lookup ("range" : Str) = some .globalImplicit) (hm : c.mg "range" = none) (h : SA c J [a] m) (hs : ∀ env : Env, starEach [a] env = [(false, eval a env)] := by intro _; rfl) : SI c J tg (.Call (.Name "range" p) [a] [] pos) (iR1 m) := by
  obtain ⟨t, pt, q⟩ := h
  refine ⟨fun W => iRng1 (t W), fun W X hX tk => pi_range1 (by show X.env.scope.names.lookup _ = _; rw [hX.scope]; exact hg) (by rw [hX.mg]; exact hm) (pt W X hX tk) (hs _), fun W s σ H O F Q o k => q W s σ H O F _ o ?_⟩
  unfold iR1 at k
  split at k
  · rename_i b j s1 e1 h1
    rw [h1]
    intro vs H1 T1 O1 r1 o1 p1
    obtain ⟨v, vs', T2, T3, rfl, rfl, ⟨rfl, rfl⟩, rfl, rfl⟩ := r1
    split at k
    · rename_i hj
      have hj := i62_ok hj
      exact ⟨j, rfl, hj.1, hj.2, k _ H1 O1 _ itok_rng trivial o1.drop (p1.sub (by simp) fun _ z => z)⟩
    · exact k.elim
  · exact k.elim
  · rename_i x s1 h1; rw [h1]; exact k
  · exact k.elim
theorem si_range2 {tg a b : Expr} {p pos : Pos} {m : M (Bool × List D)} (hg : c.scope.names.lookup ("range" : Str) = some .globalImplicit) (hm : c.mg "range" = none) (h : SA c J [a, b] m) (hs : ∀ env : Env, starEach [a, b] env = [(false, eval a env), (false, eval b env)] := by intro _; rfl) (hs2 : ∀ env : Env, starEach [b] env = [(false, eval b env)] := by intro _; rfl) : SI c J tg (.Call (.Name "range" p) [a, b] [] pos) (iR2 m) := by
  obtain ⟨t, pt, q⟩ := h
  refine ⟨fun W => iRng2 (t W), fun W X hX tk => pi_range2 (by show X.env.scope.names.lookup _ = _; rw [hX.scope]; exact hg) (by rw [hX.mg]; exact hm) (pt W X hX tk) (hs _) (hs2 _), fun W s σ H O F Q o k => q W s σ H O F _ o ?_⟩
  unfold iR2 at k
  split at k
  · rename_i b i j s1 e1 h1
    rw [h1]
    intro vs H1 T1 O1 r1 o1 p1
    obtain ⟨v, vs', T2, T3, rfl, rfl, ⟨rfl, rfl⟩, v2, vs2, T4, T5, rfl, rfl, ⟨rfl, rfl⟩, rfl, rfl⟩ := r1
    split at k
    · rename_i hj
      have h1 := i62_ok hj.1
      have h2 := i62_ok hj.2
      exact ⟨i, j, rfl, ⟨h1.1, h1.2, h2.1, h2.2⟩, k _ H1 O1 _ itok_rng trivial o1.drop (p1.sub (by simp) fun _ z => z)⟩
    · exact k.elim
  · exact k.elim
  · rename_i x s1 h1; rw [h1]; exact k
  · exact k.elim
def iEn (m : M (Bool × List D)) : M (List D) := fun s => match m s with
  | .ok (b, [.lst o xs]) s' e => if (b || noFzs [.lst o xs]) = true then .ok (enumD (fzs xs)) s' e else .bad
  | .ok _ _ _ => .bad
  | .exc x s' => .exc x s'
  | .bad => .bad
def iZp (m : M (Bool × List D)) : M (List D) := fun s => match m s with
  | .ok (b, [.lst o xs, .lst o' ys]) s' e => if (b || noFzs [.lst o xs, .lst o' ys]) = true then .ok (pairD (fzs xs) (fzs ys)) s' e else .bad
  | .ok _ _ _ => .bad
  | .exc x s' => .exc x s'
  | .bad => .bad
theorem stricts_of {b : Bool} {ds : List D} {K : Frag} {H : Hp} {T O F : List Addr} {vs : List V} (h : (b || noFzs ds) = true) (r : Rps K H (T ++ av b O F) ds vs T) : Rps K H (T ++ (O ++ F)) ds vs T := by
  cases b with
  | true => simpa [av] using r
  | false => exact r.loose (by simpa using h)
theorem si_enum {e : Expr} {p pos tpos : Pos} {elts : List Expr} {kk : Nat} {m : M (Bool × List D)} (hg : c.scope.names.lookup ("enumerate" : Str) = some .globalImplicit) (hm : c.mg "enumerate" = none) (h : SA c J [e] m) (hs : ∀ env : Env, starEach [e] env = [(false, eval e env)] := by intro _; rfl) : SI c J (.Tuple elts kk tpos) (.Call (.Name "enumerate" p) [e] [] pos) (iEn m) := by
  obtain ⟨t, pt, q⟩ := h
  refine ⟨fun W => iEnum c.K (t W), fun W X hX tk => by rw [← hX.K]; exact pi_enum (by show X.env.scope.names.lookup _ = _; rw [hX.scope]; exact hg) (by rw [hX.mg]; exact hm) (pt W X hX tk) (hs _), fun W s σ H O F Q o k => q W s σ H O F _ o ?_⟩
  unfold iEn at k
  split at k
  · rename_i b ob xs s1 e1 h1
    rw [h1]
    intro vs H1 T1 O1 r1 o1 p1
    split at k
    · rename_i hb
      have r := frozes o1 (stricts_of hb r1)
      obtain ⟨v, vs', T2, T3, rfl, _, ⟨a, ws, rfl, h2, _, h3⟩, rfl, rfl⟩ := r
      exact ⟨a, ws, rfl, h2.sq, k _ H1 O1 _ (itok_enum h3.length) ⟨h2, h3⟩ o1.drop (p1.sub (by simp) fun _ z => z)⟩
    · exact k.elim
  · exact k.elim
  · rename_i x s1 h1; rw [h1]; exact k
  · exact k.elim
theorem si_zip {e e2 : Expr} {p pos tpos : Pos} {elts : List Expr} {kk : Nat} {m : M (Bool × List D)} (hg : c.scope.names.lookup ("zip" : Str) = some .globalImplicit) (hm : c.mg "zip" = none) (h : SA c J [e, e2] m) (hs : ∀ env : Env, starEach [e, e2] env = (false, eval e env) :: starEach [e2] env := by intro _; rfl) (hpl : ∀ env : Env, (backTo pos (starEach [e2] env)).any (·.1) = false := by intro _; rfl) : SI c J (.Tuple elts kk tpos) (.Call (.Name "zip" p) [e, e2] [] pos) (iZp m) := by
  obtain ⟨t, pt, q⟩ := h
  refine ⟨fun W => iZip c.K (t W), fun W X hX tk => by rw [← hX.K]; exact pi_zip (by show X.env.scope.names.lookup _ = _; rw [hX.scope]; exact hg) (by rw [hX.mg]; exact hm) (pt W X hX tk) (hs _) (hpl _), fun W s σ H O F Q o k => q W s σ H O F _ o ?_⟩
  unfold iZp at k
  split at k
  · rename_i b ob xs ob' ys s1 e1 h1
    rw [h1]
    intro vs H1 T1 O1 r1 o1 p1
    split at k
    · rename_i hb
      have r := frozes o1 (stricts_of hb r1)
      obtain ⟨v, vs', T2, T3, rfl, eT, ⟨a, ws, rfl, h2, rfl, h3⟩, v2, vs2, T4, T5, rfl, e5, ⟨a2, ws2, rfl, h4, rfl, h5⟩, rfl, rfl⟩ := r
      exact ⟨a, a2, ws, ws2, rfl, h2.sq, h4.sq, k _ H1 O1 _ (itok_zip h3.length h5.length) ⟨⟨h2, h3⟩, h4, h5⟩ o1.drop (p1.sub (by simp) fun _ z => z)⟩
    · exact k.elim
  · exact k.elim
  · rename_i x s1 h1; rw [h1]; exact k
  · exact k.elim

/-! ### for -/
def loopM (g : D → Sl → Option Sl) (body : MS) (dead : List Nat) : List D → MS
  | [], s => .nx s
  | d :: ds, s => match g d s with
    | none => .bad
    | some s1 => (match body s1 with
      | .nx s2 => loopM g body dead ds (kill dead s2)
      | .ct s2 => loopM g body dead ds (kill dead s2)
      | .bk s2 => .nx (kill dead s2)
      | .rt d s2 => .rt d s2
      | .exc x s2 => .exc x s2
      | .bad => .bad)
def sFor (mi : M (List D)) (g : D → Sl → Option Sl) (body : MS) (dead : List Nat) : MS := fun s => match mi s with
  | .ok items s1 _ => loopM g body dead items (kill dead s1)
  | .exc x s1 => .exc x s1
  | .bad => .bad
theorem snd_for {wi : WX → TI} {tg : WX → TG} {ws : List Nat} {tb : WX → TS} {mi : M (List D)} {g : D → Sl → Option Sl} {body : MS} (qi : SndI c J wi mi) (qg : SndG c J ws tg g) (qb : SndS c J tb body) (dead : List Nat) : SndS c J (fun W => tFor (wi W) (tg W) (tb W)) (sFor mi g body dead) := by
  intro W E s σ H O F o k
  refine qi W s σ H O F _ o ?_
  unfold sFor at k
  cases h1 : mi s with
  | bad => rw [h1] at k; exact k
  | exc x s1 => rw [h1] at k; exact XP.stmt k
  | ok items s1 e1 =>
    rw [h1] at k
    intro Jt H1 O1 S it hS o1 p1
    obtain ⟨Y, hw, hy⟩ := it.walk
    refine for_it hw (fun i σ H => ∃ s O, Own c.K J H s σ O F ∧ S H (O ++ F) ∧ PostS c J W E H O F (loopM g body dead (items.drop i) s)) ?_ (fun i σ H _ ⟨s, O, _, h, _⟩ => ⟨_, h⟩) ?_ ?_
    · obtain ⟨O2, g2, o2⟩ := o1.kill dead
      have p2 := p1.sub (T' := []) (O'' := O2) (by simp) g2
      refine ⟨_, O2, o2, it.mv (M := []) hS ⟨fun _ _ h _ => h, by simp, by simp, fun a ha => .inl ?_⟩, PostS.after (by simpa using k) p2⟩
      rcases List.mem_append.mp ha with z | z
      · exact List.mem_append_left _ (g2 a z)
      · exact List.mem_append_right _ z
    · rintro i x σ2 H2 H3 hi ⟨s2, O2, o2, hS2, k2⟩ y
      obtain ⟨d, hd⟩ : ∃ d, items[i]? = some d := ⟨items[i], by simp [hi]⟩
      obtain ⟨ext, rd⟩ := hy i H2 _ x H3 d hS2 y hd
      have hdr : items.drop i = d :: items.drop (i + 1) := by
        rw [List.drop_eq_getElem_cons hi]
        congr 1
        have := List.getElem?_eq_some_iff.mp hd
        exact this.2
      rw [hdr] at k2
      unfold loopM at k2
      have mv0 : Mv H2 H3 [] (O2 ++ F) (O2 ++ F) := ⟨fun a u h _ => ext a u h, by simp, by simp, fun a h => .inl h⟩
      have o3 : Own c.K J H3 s2 σ2 O2 F := ⟨o2.rep.mv mv0 (by simp), o2.nd, fun a ha => by
        have h := o2.fr a ha
        obtain ⟨u, e⟩ := OwnO.some h
        rw [e] at h
        rw [ext a u e]
        exact h, o2.pin⟩
      have st3 : Stp true H2 H3 O2 [] O2 := ⟨fun a u h _ => ext a u h, by simp, fun a h => .inl h⟩
      cases hg : g d s2 with
      | none => rw [hg] at k2; exact k2.elim
      | some s3 =>
        rw [hg] at k2
        refine qg W s2 s3 σ2 H3 O2 [] F d x _ (by simpa using o3) (by simpa using rd) hg fun σ4 H4 O4 o4 st4 _ => ?_
        have st24 : Stp true H2 H4 O2 [] O4 := by simpa using st3.trans (by simpa using st4)
        refine qb W _ s3 σ4 H4 O4 F o4 ?_
        -- the invariant behind a turn
        have again : ∀ {s5 : Sl} {σ5 : St} {H5 : Hp} {O5 : List Addr}, PostS c J W E H2 O2 F (loopM g body dead (items.drop (i + 1)) (kill dead s5)) → Own c.K J H5 s5 σ5 O5 F → Stp true H4 H5 O4 [] O5 →
            ∃ s O, Own c.K J H5 s σ5 O F ∧ S H5 (O ++ F) ∧ PostS c J W E H5 O F (loopM g body dead (items.drop (i + 1)) s) := fun {s5 σ5 H5 O5} kk o5 st5 => by
          obtain ⟨O6, g6, o6⟩ := o5.kill dead
          have st25 : Stp true H2 H5 O2 [] O6 := (by simpa using st24.trans st5 : Stp true H2 H5 O2 [] O5).sub (by simp) g6
          refine ⟨_, O6, o6, it.mv hS2 (st25.mv (F := F) o2.own (L := O2 ++ F) (L' := O6 ++ F) (fun a h => List.mem_append_left _ h) fun a h => ?_), PostS.after kk st25⟩
          rcases List.mem_append.mp h with z | z
          · exact .inr (.inr z)
          · exact .inl (List.mem_append_right _ z)
        have tr : ∀ {H' : Hp} {T O' : List Addr}, Stp true H4 H' O4 T O' → Stp true H2 H' O2 T O' := fun st => by simpa using st24.trans st
        simp only [] at k2
        cases hb : body s3 with
        | nx s5 => rw [hb] at k2; exact fun σ5 H5 O5 o5 st5 => again k2 o5 st5
        | ct s5 => rw [hb] at k2; exact fun σ5 H5 O5 o5 st5 => again k2 o5 st5
        | bk s5 =>
          rw [hb] at k2
          intro σ5 H5 O5 o5 st5
          obtain ⟨O6, g6, o6⟩ := o5.kill dead
          exact k2 σ5 H5 O6 o6 ((tr st5).sub (by simp) g6)
        | rt d s5 => rw [hb] at k2; exact fun v σ5 H5 T O5 r o5 st5 => k2 v σ5 H5 T O5 r o5 (tr st5)
        | exc x s5 => rw [hb] at k2; exact fun cls dx σ5 H5 O5 hx o5 st5 => k2 cls dx σ5 H5 O5 hx o5 (tr st5)
        | bad => rw [hb] at k2; exact k2.elim
    · rintro σ2 H2 ⟨s2, O2, o2, hS2, k2⟩
      rw [List.drop_length] at k2
      exact k2 σ2 H2 O2 o2 Stp.refl
theorem ss_for {tg iter : Expr} {body : List Stmt} {pos : Pos} {ws : List Nat} {mi : M (List D)} {g : D → Sl → Option Sl} {mb : MS} (dead : List Nat) (ht : c.top = true) (hc : c.calm = true) (hi : SI c J tg iter mi) (hg : SG c J ws tg g) (hb : SSs c J body mb)
    (hs : ∀ env x, foldedSetIterable iter env x = pure x := by intro _ _; rfl) : SS c J (.For tg iter body [] pos) (sFor mi g mb dead) := by
  obtain ⟨wi, pi, qi⟩ := hi
  obtain ⟨t, pt, qt⟩ := hg
  obtain ⟨tb, pb, qb⟩ := hb
  exact ⟨_, fun W X hX tk => ps_for (hX.top ht).2.2 (by rw [hX.calm]; exact hc) (pi W X hX tk) (pt W X hX tk) (pb W X hX tk) (hs _), snd_for qi qt qb dead⟩

/-! ### while -/
def wloop (mt : M Bool) (body : MS) (dead : List Nat) : Nat → MS
  | 0, _ => .bad
  | n + 1, s => match mt s with
    | .ok b s1 _ => if b = true then (match body s1 with
      | .nx s2 => wloop mt body dead n (kill dead s2)
      | .ct s2 => wloop mt body dead n (kill dead s2)
      | .bk s2 => .nx (kill dead s2)
      | .rt d s2 => .rt d s2
      | .exc x s2 => .exc x s2
      | .bad => .bad) else .nx s1
    | .exc x s1 => .exc x s1
    | .bad => .bad
def sWhile (fuel : Nat) (mt : M Bool) (body : MS) (dead : List Nat) : MS := fun s => wloop mt body dead fuel (kill dead s)
theorem snd_while {tt : WX → TT} {tb : WX → TS} {mt : M Bool} {body : MS} (qt : SndT c J tt mt) (qb : SndS c J tb body) (fuel : Nat) (dead : List Nat) : SndS c J (fun W => tWhile (tt W) (tb W)) (sWhile fuel mt body dead) := by
  intro W E s σ H O F o k
  refine ⟨fun m σ H => ∃ s O, Own c.K J H s σ O F ∧ PostS c J W E H O F (wloop mt body dead m s), ⟨fuel, ?_⟩, ?_⟩
  · obtain ⟨O2, g2, o2⟩ := o.kill dead
    exact ⟨_, O2, o2, PostS.after (e := false) k ⟨fun _ _ h _ => h, by simp, fun a h => .inl (g2 a h)⟩⟩
  · rintro m σ1 H1 ⟨s1, O1, o1, k1⟩
    refine qt W s1 σ1 H1 O1 F _ o1 ?_
    cases m with
    | zero => exact k1.elim
    | succ m =>
      unfold wloop at k1
      cases h1 : mt s1 with
      | bad => rw [h1] at k1; exact k1
      | exc x s2 => rw [h1] at k1; exact XP.stmt k1
      | ok b s2 e2 =>
        rw [h1] at k1
        intro H2 O2 o2 p2
        have p2' := p2.mono (e' := true) fun _ => rfl
        simp only [] at k1
        cases b with
        | false => exact iteF (k1 σ1 H2 O2 o2 p2')
        | true =>
          refine iteT ⟨fun σ' H' => ∃ s O, Own c.K J H' s σ' O F ∧ PostS c J W E H' O F (wloop mt body dead m s), fun σ' H' h => ⟨m, Nat.lt_succ_self m, h⟩, ?_⟩
          refine qb W _ s2 σ1 H2 O2 F o2 ?_
          simp only [if_true] at k1
          have tr : ∀ {H' : Hp} {T O' : List Addr}, Stp true H2 H' O2 T O' → Stp true H1 H' O1 T O' := fun st => by simpa using p2'.trans st
          have again : ∀ {s5 : Sl} {σ5 : St} {H5 : Hp} {O5 : List Addr}, PostS c J W E H1 O1 F (wloop mt body dead m (kill dead s5)) → Own c.K J H5 s5 σ5 O5 F → Stp true H2 H5 O2 [] O5 → ∃ s O, Own c.K J H5 s σ5 O F ∧ PostS c J W E H5 O F (wloop mt body dead m s) := fun {s5 σ5 H5 O5} kk o5 st5 => by
            obtain ⟨O6, g6, o6⟩ := o5.kill dead
            exact ⟨_, O6, o6, PostS.after kk ((tr st5).sub (by simp) g6)⟩
          cases hb : body s2 with
          | nx s5 => rw [hb] at k1; exact fun σ5 H5 O5 o5 st5 => again k1 o5 st5
          | ct s5 => rw [hb] at k1; exact fun σ5 H5 O5 o5 st5 => again k1 o5 st5
          | bk s5 =>
            rw [hb] at k1
            intro σ5 H5 O5 o5 st5
            obtain ⟨O6, g6, o6⟩ := o5.kill dead
            exact k1 σ5 H5 O6 o6 ((tr st5).sub (by simp) g6)
          | rt d s5 => rw [hb] at k1; exact fun v σ5 H5 T O5 r o5 st5 => k1 v σ5 H5 T O5 r o5 (tr st5)
          | exc x s5 => rw [hb] at k1; exact fun cls dx σ5 H5 O5 hx o5 st5 => k1 cls dx σ5 H5 O5 hx o5 (tr st5)
          | bad => rw [hb] at k1; exact k1.elim
theorem ss_while {t : Expr} {body : List Stmt} {pos : Pos} {mt : M Bool} {mb : MS} (fuel : Nat) (dead : List Nat) (htop : c.top = true) (ht : STs c J t mt) (hb : SSs c J body mb) : SS c J (.While t body [] pos) (sWhile fuel mt mb dead) := by
  obtain ⟨tt, pt, qt⟩ := ht
  obtain ⟨tb, pb, qb⟩ := hb
  exact ⟨_, fun W X hX tk => ps_while (hX.top htop).2.2 (pt W X hX tk) (pb W X hX tk), snd_while qt qb fuel dead⟩
end
end VL
/-! VL 8: list comprehensions -/
namespace VL
open PySem PySem.Spec L2

abbrev blkX (c : Ctx) (scope : Scope) : Ctx := { c with scope := relS scope c.scope, fn := fun x => scope.names.lookup x == some .cell, top := false }
theorem inC_blk {c : Ctx} {X : Cx} (hX : InC c X) {scope : Scope} {s : Shared} {H : Hp} {C : Addr} {cl : List (Str × Addr)} {fp : List Addr} : InC (blkX c scope) (X.blk s H scope (compEnvC scope cl C X.env) fp) where
  prog := hX.prog
  w := hX.w
  K := hX.K
  mg := hX.mg
  base := hX.base
  N := hX.N
  scope := by
    show relS scope X.env.scope = _
    rw [hX.scope]
  calm := hX.calm
  fn := fun x h => h
  room := hX.room
  gd := hX.gd
  top := fun h => by cases h
def STl (c : Ctx) (J : List (Nat × V)) (ifs : List Expr) (m : M Bool) : Prop := ∃ tt : WX → TT, (∀ W X, InC c X → Takes X W → PTs X ifs (tt W)) ∧ SndT c J tt m
def tTrue : M Bool := fun s => .ok true s false
section
variable {c : Ctx} {J : List (Nat × V)}
theorem stl_nil : STl c J [] tTrue := ⟨fun _ => tYes, fun _ _ _ _ => pts_nil, fun W s σ H O F Q o q => q H O o Stp.refl⟩
theorem stl_one {e : Expr} {m : M Bool} (h : STs c J e m) : STl c J [e] m := by
  obtain ⟨t, p, q⟩ := h
  exact ⟨t, fun W X hX tk => pts_one (p W X hX tk), q⟩
theorem Own.wipe1 {K : Frag} {H : Hp} {s : Sl} {σ : St} {O F : List Addr} (o : Own K J H s σ O F) (i : Nat) (hi : notPin J i) : ∃ O', (∀ a ∈ O', a ∈ O) ∧ Own K J H (s.set i none) (σ.set i none) O' F := by
  cases e : s[i]? with
  | none =>
    have hl := List.getElem?_eq_none_iff.mp e
    exact ⟨O, fun _ h => h, by rw [List.set_eq_of_length_le hl, List.set_eq_of_length_le (by rw [← o.rep.length]; exact hl)]; exact o⟩
  | some x =>
    obtain ⟨v, O1, O2, h1, h2, h3, h4⟩ := o.set e
    have hnd : (O1 ++ (O2 ++ F)).Nodup := by
      have := (h3.append_right F).nodup_iff.mp o.nd
      rwa [List.append_assoc] at this
    obtain ⟨O3, p3, o3⟩ := h4 (H' := H) (F' := F) (y := none) (w := none) (U := []) (fun _ _ h _ => h) (by simp) (fun a h => .inr (.inl h)) (by simpa using (List.nodup_append.mp hnd).2.1) o.fr (fun L' hL => rfl)
      (fun p hp h => absurd h (hi p hp))
    exact ⟨O3, fun a ha => h3.symm.subset (List.mem_append_right _ (by simpa using p3.subset ha)), o3⟩
theorem Own.wipe {K : Frag} {H : Hp} {σ : St} {F : List Addr} : ∀ (is : List Nat) {s : Sl} {O : List Addr}, (∀ i ∈ is, notPin J i) → Own K J H s σ O F → ∃ O', (∀ a ∈ O', a ∈ O) ∧ Own K J H (VL.kill is s) (L2.wipe σ is) O' F
  | [], s, O, _, o => ⟨O, fun _ h => h, o⟩
  | i :: is, s, O, hi, o => by
    obtain ⟨O1, h1, o1⟩ := Own.wipe is (fun j hj => hi j (List.mem_cons_of_mem _ hj)) o
    obtain ⟨O2, h2, o2⟩ := o1.wipe1 i (hi i List.mem_cons_self)
    exact ⟨O2, fun a h => h1 a (h2 a h), o2⟩
theorem kill_len : ∀ (is : List Nat) (s : Sl), (kill is s).length = s.length
  | [], _ => rfl
  | i :: is, s => by unfold kill; rw [List.length_set, kill_len is s]
theorem kill_get {i : Nat} {d : D} : ∀ {is : List Nat} {s : Sl}, (kill is s)[i]? = some (some d) → i ∉ is
  | [], _, _ => by simp
  | j :: is, s, h => by
    unfold kill at h
    by_cases e : j = i
    · subst e
      by_cases hl : j < (kill is s).length
      · rw [List.getElem?_set_self hl] at h; cases h
      · rw [List.getElem?_eq_none (by simpa using hl)] at h; cases h
    · rw [List.getElem?_set_ne e] at h
      have := kill_get h
      simp only [List.mem_cons, not_or]
      exact ⟨fun z => e z.symm, this⟩
theorem RSl.re {K : Frag} {H : Hp} {L : List Addr} : ∀ {s : Sl} {σ σ' : St} {O : List Addr}, RSl K H L s σ O → σ'.length = σ.length → (∀ (i : Nat) (d : D), s[i]? = some (some d) → σ'[i]? = σ[i]?) → RSl K H L s σ' O
  | [], σ, σ', O, r, hl, h => by
    obtain ⟨rfl, rfl⟩ := r
    have : σ' = [] := List.length_eq_zero_iff.mp hl
    exact ⟨this, rfl⟩
  | x :: s, σ, σ', O, r, hl, h => by
    obtain ⟨v, σ1, O1, O2, rfl, rfl, e3, e4⟩ := r
    cases σ' with
    | nil => simp at hl
    | cons w σ2 =>
      refine ⟨w, σ2, O1, O2, rfl, rfl, ?_, RSl.re e4 (by simpa using hl) fun i d hd => by simpa using h (i + 1) d (by simpa using hd)⟩
      cases x with
      | none => exact e3
      | some d =>
        have := h 0 d (by simp)
        have : w = v := by simpa using this
        subst this
        exact e3
theorem wipe_len (σ : St) (is : List Nat) : (wipe σ is).length = σ.length := wipe_length σ is
theorem wipe_off {σ σ' : St} {ws is : List Nat} (h : Off ws σ σ') (hs : ∀ i ∈ ws, i ∈ is) : wipe σ' is = wipe σ is := by
  have aux : ∀ (js : List Nat) (i : Nat), (wipe σ' js)[i]? = if i ∈ js then (if i < σ.length then some none else none) else σ'[i]? := by
    intro js
    induction js with
    | nil => intro i; simp [L2.wipe]
    | cons j js ih =>
      intro i
      unfold L2.wipe
      by_cases e : j = i
      · subst e
        by_cases hl : j < σ.length
        · rw [List.getElem?_set_self (by rw [wipe_len, h.1]; exact hl)]
          simp [hl]
        · rw [List.getElem?_eq_none (by rw [List.length_set, wipe_len, h.1]; omega)]
          simp [hl]
      · rw [List.getElem?_set_ne e, ih]
        have : (i ∈ j :: js) = (i ∈ js) := by simp [List.mem_cons, Ne.symm e]
        simp only [this]
  have aux2 : ∀ (js : List Nat) (i : Nat), (wipe σ js)[i]? = if i ∈ js then (if i < σ.length then some none else none) else σ[i]? := by
    intro js
    induction js with
    | nil => intro i; simp [L2.wipe]
    | cons j js ih =>
      intro i
      unfold L2.wipe
      by_cases e : j = i
      · subst e
        by_cases hl : j < σ.length
        · rw [List.getElem?_set_self (by rw [wipe_len]; exact hl)]
          simp [hl]
        · rw [List.getElem?_eq_none (by rw [List.length_set, wipe_len]; omega)]
          simp [hl]
      · rw [List.getElem?_set_ne e, ih]
        have : (i ∈ j :: js) = (i ∈ js) := by simp [List.mem_cons, Ne.symm e]
        simp only [this]
  apply List.ext_getElem?
  intro i
  rw [aux, aux2]
  by_cases hi : i ∈ is
  · simp [hi]
  · rw [if_neg hi, if_neg hi]
    exact h.2 i fun z => hi (hs i z)

def lcM (g : D → Sl → Option Sl) (mt : M Bool) (me : M Val) (own : List Nat) : List D → List D → Sl → Bool → R (List D)
  | [], acc, s, e => .ok acc s e
  | d :: ds, acc, s, e => match g d s with
    | none => .bad
    | some s1 => (match mt s1 with
      | .ok b s2 e2 => if b = true then (match me s2 with
          | .ok (b', y) s3 e3 => if (b' || noFz y) = true ∧ fits (acc.length + 1) = true then lcM g mt me own ds (acc ++ [y]) (kill own s3) (e || e2 || e3) else .bad
          | _ => .bad) else lcM g mt me own ds acc (kill own s2) (e || e2)
      | _ => .bad)
def xLc (mi : M (List D)) (g : D → Sl → Option Sl) (mt : M Bool) (me : M Val) (own : List Nat) : M Val := fun s => match mi s with
  | .ok items s1 e1 => (match lcM g mt me own items [] (kill own s1) false with
    | .ok acc s2 e2 => .ok (true, .lst true acc) s2 (e1 || e2)
    | _ => .bad)
  | .exc x s1 => .exc x s1
  | .bad => .bad
structure LcI (c : Ctx) (J : List (Nat × V)) (S : Hp → List Addr → Prop) (σ : St) (bo : List Nat) (H1 : Hp) (O1 F : List Addr) (Dn : Addr) (H : Hp) (s : Sl) (O : List Addr) (acc : List D) (vs : List V) (T : List Addr) (e : Bool) : Prop where
  own : Own c.K J H s (wipe σ bo) O (Dn :: (T ++ F))
  at_ : H Dn = some (.lst vs)
  rep : Rps c.K H (Dn :: (T ++ (O ++ F))) acc vs T
  it : S H (O ++ (Dn :: (T ++ F)))
  st : Stp e H1 H O1 (Dn :: T) O
  ks : ∃ s', s = kill bo s'
/-- targets that are names, of frozen things: no object changes -/
def SndN (c : Ctx) (J : List (Nat × V)) (ws : List Nat) (tg : WX → TG) (g : D → Sl → Option Sl) : Prop := ∀ W s s' σ H O F d v Q, Own c.K J H s σ O F → Rp c.K H (O ++ F) d v [] → g d s = some s' →
  (∀ σ' O', Own c.K J H s' σ' O' F → (∀ a ∈ O', a ∈ O) → Off ws σ σ' → Q σ' H) → tg W v σ H Q
def SN (c : Ctx) (J : List (Nat × V)) (ws : List Nat) (tgt : Expr) (g : D → Sl → Option Sl) : Prop := ∃ tg : WX → TG, (∀ W X, InC c X → Takes X W → PG X tgt (tg W)) ∧ SndN c J ws tg g
def SNs (c : Ctx) (J : List (Nat × V)) (ws : List Nat) (tgts : List Expr) (g : List D → Sl → Option Sl) : Prop := ∃ tg : WX → TGs, (∀ W X, InC c X → Takes X W → PGs X tgts (tg W)) ∧
  ∀ W s s' σ H O F ds vs Q, Own c.K J H s σ O F → Rps c.K H (O ++ F) ds vs [] → g ds s = some s' → (∀ σ' O', Own c.K J H s' σ' O' F → (∀ a ∈ O', a ∈ O) → Off ws σ σ' → Q σ' H) → tg W vs σ H Q
theorem sn_name (i : Nat) {x : Str} {pos : Pos} (hn : c.N.Nodup) (hN : c.N[i]? = some x := by rfl) (hp : notPin J i) (hx : Loc c.scope x := by first | exact Or.inl rfl | exact Or.inr rfl)
    (hf : c.fn x = true ∨ c.scope.names.lookup x = some .local := by first | exact .inl rfl | exact .inr rfl) : SN c J [i] (.Name x pos) (gNm i) := by
  refine ⟨fun _ => gName i, fun W X hX tk => pg_name (by rw [hX.N]; exact hn) (by rw [hX.N]; exact hN) (by rw [hX.scope]; exact hx) ?_, fun W s s' σ H O F d v Q o r hg q => ?_⟩
  · exact hf.imp (hX.fn x) fun z => by rw [hX.scope]; exact z
  · cases hg
    obtain ⟨O', h, o'⟩ := Own.put (T := []) (by simpa using o) (by simpa using r) i hp
    exact q _ O' o' (fun a ha => by simpa using h a ha) ⟨by simp, fun j hj => by rw [List.getElem?_set_ne (fun e => hj (by simp [e]))]⟩
theorem sns_nil : SNs c J [] [] gsNil := ⟨fun _ => gNil, fun _ _ _ _ => pgs_nil, fun W s s' σ H O F ds vs Q o r hg q => by
  cases ds with
  | nil =>
    cases hg
    obtain ⟨rfl, _⟩ := r
    exact ⟨rfl, q σ O o (fun _ h => h) ⟨rfl, fun _ _ => rfl⟩⟩
  | cons d ds => cases hg⟩
theorem sns_cons {e : Expr} {es : List Expr} {ws ws' : List Nat} {g : D → Sl → Option Sl} {gs : List D → Sl → Option Sl} (hg : SN c J ws e g) (hgs : SNs c J ws' es gs)
    (hs : ∀ env : Env, (assignEach (e :: es) env).map (·.2) = assign e env :: (assignEach es env).map (·.2) := by intro _; rfl) : SNs c J (ws ++ ws') (e :: es) (gsCons g gs) := by
  obtain ⟨t, p, q⟩ := hg
  obtain ⟨ts, ps, qs⟩ := hgs
  refine ⟨fun W => gCons (t W) (ts W), fun W X hX tk => pgs_cons (p W X hX tk) (ps W X hX tk) (hs _), fun W s s' σ H O F ds vs Q o r h k => ?_⟩
  cases ds with
  | nil => cases h
  | cons d ds =>
    unfold gsCons at h
    simp only [] at h
    split at h
    · rename_i s1 h1
      obtain ⟨v, vs', T1, T2, rfl, eT, r1, r2⟩ := r
      obtain ⟨rfl, rfl⟩ : T1 = [] ∧ T2 = [] := by simpa using eT.symm
      refine ⟨v, vs', rfl, q W s s1 σ H O F d v _ o r1 h1 fun σ1 O1 o1 g1 of1 => ?_⟩
      refine qs W s1 s' σ1 H O1 F ds vs' _ o1 (r2.anti fun a ha => ?_) h fun σ2 O2 o2 g2 of2 => k σ2 O2 o2 (fun a ha => g1 a (g2 a ha)) ⟨of2.1.trans of1.1, fun j hj => by rw [of2.2 j fun z => hj (List.mem_append_right _ z), of1.2 j fun z => hj (List.mem_append_left _ z)]⟩
      rcases List.mem_append.mp ha with z | z
      · exact List.mem_append_left _ (g1 a z)
      · exact List.mem_append_right _ z
    · cases h
theorem sn_tup {es : List Expr} {ws : List Nat} {k : Nat} {gs : List D → Sl → Option Sl} {n : Nat} {pos : Pos} (hc : c.calm = true) (h : SNs c J ws es gs) (hn : ∀ env : Env, (assignEach es env).length = n := by intro _; rfl)
    (hst : ∀ env : Env, (assignEach es env).findIdx? (·.1) = none := by intro _; rfl) : SN c J ws (.Tuple es k pos) (gTp n gs) := by
  obtain ⟨ts, ps, qs⟩ := h
  refine ⟨fun W => gTup c.K n (ts W), fun W X hX tk => ?_, fun W s s' σ H O F d v Q o r hg k => ?_⟩
  · rw [← hX.K]
    exact pg_tup (by rw [hX.calm]; exact hc) (ps W X hX tk) (hn _) (hst _)
  · cases d with
    | tup ds =>
      unfold gTp at hg
      simp only [] at hg
      split at hg
      · rename_i hl
        obtain ⟨a, vs, rfl, h2, h3⟩ := r
        exact ⟨a, vs, rfl, h2, by rw [← h3.length]; exact hl, qs W s s' σ H O F ds vs Q o h3 hg k⟩
      · cases hg
    | _ => cases hg
theorem Own.ext {K : Frag} {H H' : Hp} {s : Sl} {σ : St} {O F : List Addr} (o : Own K J H s σ O F) (ext : ∀ a u, H a = some u → H' a = some u) : Own K J H' s σ O F :=
  ⟨o.rep.mv (M := []) ⟨fun a u h _ => ext a u h, by simp, by simp, fun a h => .inl h⟩ (by simp), o.nd, fun a ha => by
    have h := o.fr a ha
    obtain ⟨u, e⟩ := OwnO.some h
    rw [e] at h
    rw [ext a u e]
    exact h, o.pin⟩
theorem snd_lc {c' : Ctx} (hcK : c'.K = c.K) {wi : WX → TI} {tg : WX → TG} {tt : WX → TT} {te : WX → TE} {ws own : List Nat} {mi : M (List D)} {g : D → Sl → Option Sl} {mt : M Bool} {me : M Val} (qi : SndI c J wi mi) (qg : SndN c' J ws tg g) (qt : SndT c' J tt mt) (qe : SndE c' J te me)
    (hws : ∀ i ∈ ws, i ∈ own) (hpin : ∀ i ∈ own, notPin J i) : SndE c J (fun W => tLc (wi W) (tg fun _ _ _ _ => False) (tt fun _ _ _ _ => False) (te fun _ _ _ _ => False) own) (xLc mi g mt me own) := by
  intro W s σ H O F Q o k
  refine qi W s σ H O F _ o ?_
  unfold xLc at k
  cases h1 : mi s with
  | bad => rw [h1] at k; exact k
  | exc x s1 => rw [h1] at k; exact k
  | ok items s1 e1 =>
    rw [h1] at k
    intro Jt H1 O1 S it hS o1 p1
    simp only [] at k
    cases hr : lcM g mt me own items [] (kill own s1) false with
    | bad => rw [hr] at k; exact k.elim
    | exc x s2 => rw [hr] at k; exact k.elim
    | ok acc s2 e2 =>
      rw [hr] at k
      intro Dn hDn
      obtain ⟨Y, hw, hy⟩ := it.walk
      have outD : ∀ a ∈ O1 ++ F, a ≠ Dn := fun a ha e => by
        have := o1.own a ha
        rw [e, hDn] at this
        exact this
      refine lc_it hw (fun i H => ∃ s O acc' vs T e, LcI c J S σ own H1 O1 F Dn H s O acc' vs T e ∧ lcM g mt me own (items.drop i) acc' s e = .ok acc s2 e2) ?_ (fun i H _ ⟨s, O, acc', vs, T, e, h, _⟩ => ⟨_, h.it⟩) ?_ ?_
      · obtain ⟨O2, g2, o2⟩ := o1.wipe own hpin
        have mv0 : Mv H1 (upd H1 Dn (.lst [])) [] (O2 ++ F) (O2 ++ (Dn :: ([] ++ F))) := ⟨fun a u h _ => upd_ext hDn a u h, by simp, by simp, fun a ha => by
          simp only [List.mem_append, List.mem_cons, List.nil_append] at ha ⊢
          rcases ha with z | z | z
          · exact .inl (.inl z)
          · exact .inr (by rw [z]; exact hDn)
          · exact .inl (.inr z)⟩
        have hnd : (O2 ++ (Dn :: ([] ++ F))).Nodup := by
          have nd := o2.nd
          obtain ⟨n1, n2, n3⟩ := List.nodup_append.mp nd
          refine List.nodup_append.mpr ⟨n1, List.nodup_cons.mpr ⟨fun z => outD Dn (List.mem_append_right _ (by simpa using z)) rfl, by simpa using n2⟩, fun a ha b hb e => ?_⟩
          subst e
          rcases List.mem_cons.mp hb with z | z
          · exact outD a (List.mem_append_left _ (g2 a ha)) z
          · exact n3 a ha a (by simpa using z) rfl
        refine ⟨kill own s1, O2, [], [], [], false, ⟨⟨o2.rep.mv mv0 (by simp), hnd, fun a ha => ?_, o2.pin⟩, upd_same, ⟨rfl, rfl⟩, it.mv (M := []) hS ⟨fun a u h _ => upd_ext hDn a u h, by simp, by simp, fun a ha => ?_⟩, ⟨fun a u h _ => upd_ext hDn a u h, fun a ha => .inr ?_, fun a ha => .inl (g2 a ha)⟩, ⟨s1, rfl⟩⟩, by simpa using hr⟩
        · rcases List.mem_cons.mp ha with z | z
          · rw [z, upd_same]; trivial
          · have h := o1.fr a (by simpa using z)
            obtain ⟨u, e⟩ := OwnO.some h
            rw [e] at h
            rw [upd_ext hDn a u e]
            exact h
        · simp only [List.mem_append, List.mem_cons, List.nil_append] at ha ⊢
          rcases ha with z | z | z
          · exact .inl (.inl (g2 a z))
          · exact .inr (by rw [z]; exact hDn)
          · exact .inl (.inr z)
        · have : a = Dn := by simpa using ha
          rw [this]; exact hDn
      · rintro i x H2 H3 hi ⟨s3, O3, acc3, vs3, T3, e3, I, hl⟩ y
        obtain ⟨d, hd⟩ : ∃ d, items[i]? = some d := ⟨items[i], by simp [hi]⟩
        obtain ⟨ext, rd⟩ := hy i H2 _ x H3 d I.it y hd
        have hdr : items.drop i = d :: items.drop (i + 1) := by
          rw [List.drop_eq_getElem_cons hi]
          congr 1
          exact (List.getElem?_eq_some_iff.mp hd).2
        rw [hdr] at hl
        unfold lcM at hl
        have o3 : Own c'.K J H3 s3 (wipe σ own) O3 (Dn :: (T3 ++ F)) := by rw [hcK]; exact I.own.ext ext
        have rd' : Rp c'.K H3 (O3 ++ (Dn :: (T3 ++ F))) d x [] := by rw [hcK]; exact rd
        have st3 : Stp false H2 H3 O3 [] O3 := ⟨fun a u h _ => ext a u h, by simp, fun a h => .inl h⟩
        cases hg : g d s3 with
        | none => rw [hg] at hl; cases hl
        | some s4 =>
          rw [hg] at hl
          refine qg _ s3 s4 _ H3 O3 _ d x _ o3 rd' hg fun σ4 O4 o4 g4 of4 => ⟨?_, ?_⟩
          · rw [wipe_off of4 hws]
            exact wipe_off (ws := own) ⟨wipe_len _ _, fun j hj => wipe_out hj⟩ fun _ h => h
          · have hwp : wipe σ4 own = wipe σ own := by
              rw [wipe_off of4 hws]
              exact wipe_off (ws := own) ⟨wipe_len _ _, fun j hj => wipe_out hj⟩ fun _ h => h
            have st4 : Stp false H2 H3 O3 [] O4 := st3.sub (by simp) g4
            refine qt _ s4 σ4 H3 O4 _ _ o4 ?_
            simp only [] at hl
            have DO : Dn ∉ O3 := fun z => (List.nodup_append.mp I.own.nd).2.2 Dn z Dn List.mem_cons_self rfl
            -- what was there at the turn's beginning moves along
            have along : ∀ {ee : Bool} {H5 : Hp} {T5 O5 : List Addr}, Stp ee H2 H5 O3 T5 O5 → H5 Dn = some (.lst vs3) ∧ Rps c.K H5 (Dn :: (T3 ++ (T5 ++ (O5 ++ F)))) acc3 vs3 T3 ∧ S H5 (Dn :: (T3 ++ (T5 ++ (O5 ++ F)))) := fun {ee H5 T5 O5} st => by
              have nd := I.own.nd
              refine ⟨st.keep Dn _ I.at_ fun _ => DO, I.rep.mv (st.mv (F := Dn :: (T3 ++ F)) I.own.own (L := Dn :: (T3 ++ (O3 ++ F))) (L' := Dn :: (T3 ++ (T5 ++ (O5 ++ F)))) (fun a h => by simp [h]) fun a h => ?_) fun a h hm => ?_, it.mv I.it (st.mv (F := Dn :: (T3 ++ F)) I.own.own (L := O3 ++ (Dn :: (T3 ++ F))) (L' := Dn :: (T3 ++ (T5 ++ (O5 ++ F)))) (fun a h => by simp [h]) fun a h => ?_)⟩
              · simp only [List.mem_cons, List.mem_append] at h ⊢
                rcases h with z | z | z | z | z <;> simp [z]
              · have hm' : a ∈ O3 := by
                  by_cases z : ee = true
                  · rw [if_pos z] at hm; exact hm
                  · rw [if_neg z] at hm; cases hm
                exact (List.nodup_append.mp nd).2.2 a hm' a (by simp [h]) rfl
              · simp only [List.mem_cons, List.mem_append] at h ⊢
                rcases h with z | z | z | z | z <;> simp [z]
            cases ht : mt s4 with
            | bad => rw [ht] at hl; cases hl
            | exc x s5 => rw [ht] at hl; cases hl
            | ok bt s5 e5 =>
              rw [ht] at hl
              simp only [] at hl
              intro H5 O5 o5 p5
              have st25 : Stp e5 H2 H5 O3 [] O5 := by simpa using st4.trans p5
              cases bt with
              | false =>
                refine iteF ?_
                rw [if_neg Bool.false_ne_true] at hl
                rw [hcK] at o5
                obtain ⟨O6, g6, o6⟩ := o5.wipe own hpin
                rw [hwp] at o6
                obtain ⟨a1, a2, a3⟩ := along st25
                have sub : ∀ a ∈ Dn :: (T3 ++ (O6 ++ F)), a ∈ Dn :: (T3 ++ ([] ++ (O5 ++ F))) := fun a h => by
                  simp only [List.mem_cons, List.mem_append, List.nil_append] at h ⊢
                  rcases h with z | z | z | z
                  · simp [z]
                  · simp [z]
                  · simp [g6 a z]
                  · simp [z]
                refine ⟨kill own s5, O6, acc3, vs3, T3, e3 || e5, ⟨o6, a1, a2.anti sub, ?_, ?_, ⟨s5, rfl⟩⟩, hl⟩
                · refine it.mv (M := []) a3 ⟨fun _ _ h _ => h, by simp, by simp, fun a h => .inl ?_⟩
                  simp only [List.mem_cons, List.mem_append, List.nil_append] at h ⊢
                  rcases h with z | z | z | z
                  · simp [g6 a z]
                  · simp [z]
                  · simp [z]
                  · simp [z]
                · have := I.st.trans st25
                  exact this.sub (by intro a h; simpa using h) g6
              | true =>
                refine iteT ?_
                rw [if_pos rfl] at hl
                refine qe _ s5 σ4 H5 O5 _ _ o5 ?_
                cases hm : me s5 with
                | bad => rw [hm] at hl; cases hl
                | exc x s6 => rw [hm] at hl; cases hl
                | ok by_ s6 e6 =>
                  obtain ⟨b', y⟩ := by_
                  rw [hm] at hl
                  simp only [] at hl
                  split at hl
                  · rename_i hb
                    intro v H6 T6 O6 r6 o6 p6
                    have r6 := strict_of hb.1 r6
                    have st26 : Stp (e5 || e6) H2 H6 O3 T6 O6 := by simpa using st25.trans p6
                    obtain ⟨a1, a2, a3⟩ := along st26
                    refine ⟨vs3, a1, ?_, ?_⟩
                    · have := fits_line hb.2
                      rw [a2.length] at this
                      exact this
                    · rw [hcK] at o6 r6
                      obtain ⟨O7, g7, o7⟩ := o6.wipe own hpin
                      rw [hwp] at o7
                      have nd7 := o7.nd
                      have DT6 : Dn ∉ T6 := fun z => by
                        have := (List.nodup_append.mp nd7).2.1
                        exact (List.nodup_append.mp this).2.2 Dn z Dn List.mem_cons_self rfl
                      have DT3 : Dn ∉ T3 := fun z => by
                        have := (List.nodup_append.mp (List.nodup_append.mp nd7).2.1).2.1
                        exact (List.nodup_cons.mp this).1 (List.mem_append_left _ z)
                      have DO7 : Dn ∉ O7 := fun z => (List.nodup_append.mp nd7).2.2 Dn z Dn (by simp) rfl
                      -- all lists of addresses that are avoided are the same set
                      have hset : ∀ a, a ∈ O7 ++ (Dn :: ((T3 ++ T6) ++ F)) ↔ (a = Dn ∨ a ∈ T3 ∨ a ∈ T6 ∨ a ∈ O7 ∨ a ∈ F) := fun a => by
                        simp only [List.mem_cons, List.mem_append]
                        constructor
                        · rintro (z | z | (z | z) | z) <;> simp [z]
                        · rintro (z | z | z | z | z) <;> simp [z]
                      have mv0 : ∀ {L L' : List Addr}, Dn ∈ L → (∀ a ∈ L', a ∈ L) → Mv H6 (upd H6 Dn (.lst (vs3 ++ [v]))) [Dn] L L' := fun {L L'} hL hL' => ⟨fun a u h n => by
                          rw [upd_ne (by simpa using n)]; exact h, fun a h => by
                          have : a = Dn := by simpa using h
                          rw [this, a1]; trivial, fun a h => by
                          have : a = Dn := by simpa using h
                          rw [this]; exact hL, fun a h => .inl (hL' a h)⟩
                      have perm : (O7 ++ (Dn :: ((T3 ++ T6) ++ F))).Perm (O7 ++ (T6 ++ (Dn :: (T3 ++ F)))) := by
                        refine List.Perm.append_left O7 ?_
                        refine (List.Perm.cons Dn ?_).trans (List.perm_middle.symm)
                        rw [List.append_assoc]
                        exact perm_mid
                      refine ⟨kill own s6, O7, acc3 ++ [y], vs3 ++ [v], T3 ++ T6, e3 || e5 || e6, ⟨⟨?_, perm.nodup_iff.mpr nd7, fun a ha => ?_, o7.pin⟩, upd_same, ?_, ?_, ?_, ⟨s6, rfl⟩⟩, hl⟩
                      · refine o7.rep.mv (mv0 (by simp) fun a h => ?_) fun a h z => ?_
                        · exact perm.subset h
                        · have : a = Dn := by simpa using z
                          subst this
                          exact DO7 h
                      · by_cases z : a = Dn
                        · rw [z, upd_same]; trivial
                        · rw [upd_ne z]
                          refine o7.fr a ?_
                          simp only [List.mem_cons, List.mem_append] at ha ⊢
                          rcases ha with y | (y | y) | y
                          · exact absurd y z
                          · simp [y]
                          · simp [y]
                          · simp [y]
                      · refine Rps.append (a2.mv (mv0 (by simp) fun a h => ?_) fun a h z => ?_) ⟨v, [], T6, [], rfl, by simp, r6.mv (mv0 (by simp) fun a h => ?_) fun a h z => ?_, rfl, rfl⟩
                        · simp only [List.mem_cons, List.mem_append] at h ⊢
                          rcases h with z | (z | z) | z | z
                          · simp [z]
                          · simp [z]
                          · simp [z]
                          · simp [g7 a z]
                          · simp [z]
                        · have : a = Dn := by simpa using z
                          subst this
                          exact DT3 h
                        · simp only [List.mem_cons, List.mem_append] at h ⊢
                          rcases h with z | (z | z) | z | z
                          · simp [z]
                          · simp [z]
                          · simp [z]
                          · simp [g7 a z]
                          · simp [z]
                        · have : a = Dn := by simpa using z
                          subst this
                          exact DT6 h
                      · refine it.mv a3 (mv0 (by simp) fun a h => ?_)
                        rcases (hset a).mp h with z | z | z | z | z
                        · simp [z]
                        · simp [z]
                        · simp [z]
                        · simp [g7 a z]
                        · simp [z]
                      · have tr := I.st.trans st26
                        refine ⟨fun a u h n => ?_, fun a h => ?_, fun a h => tr.newO a (g7 a h)⟩
                        · have : a ≠ Dn := fun z => by rw [z, hDn] at h; cases h
                          rw [upd_ne this]
                          exact tr.keep a u h fun z => n (by simpa [Bool.or_assoc] using z)
                        · have := tr.newT a (by simpa using h)
                          simpa [Bool.or_assoc] using this
                  · cases hl
      · rintro H2 ⟨s3, O3, acc3, vs3, T3, e3, I, hl⟩
        rw [List.drop_length] at hl
        unfold lcM at hl
        cases hl
        obtain ⟨s', rfl⟩ := I.ks
        have o3 : Own c.K J H2 (kill own s') σ O3 (Dn :: (T3 ++ F)) := ⟨I.own.rep.re (wipe_len _ _).symm fun i d h => (wipe_out (kill_get h)).symm, I.own.nd, I.own.fr, o.pin⟩
        refine k (.ref Dn) H2 (Dn :: T3) O3 ⟨Dn, vs3, T3, rfl, I.at_, rfl, I.rep.anti fun a h => ?_⟩ (by simpa using o3) (by simpa using p1.trans I.st)
        simp only [av, if_true, List.mem_cons, List.mem_append] at h ⊢
        rcases h with (z | z) | z | z <;> simp [z]
/-- [e for target in iter if ..] as a value -/
theorem se_lc {elt tgt iter : Expr} {ifs : List Expr} {scope : Scope} {pos : Pos} {ws : List Nat} {mi : M (List D)} {g : D → Sl → Option Sl} {mt : M Bool} {me : M Val} (own : List (Str × Nat)) (hc : c.calm = true) (hN : c.N.Nodup) (hi : SI c J tgt iter mi) (ok : BlkOk c.N c.scope scope own)
    (hg : SN (blkX c scope) J ws tgt g) (ht : STl (blkX c scope) J ifs mt) (he : SE (blkX c scope) J elt me) (hws : ∀ i ∈ ws, i ∈ own.map (·.2)) (hpin : ∀ i ∈ own.map (·.2), notPin J i)
    (hs : ∀ env x, foldedSetIterable iter env x = pure x := by intro _ _; rfl) : SE c J (.ListComp elt [⟨tgt, iter, ifs, 0⟩] scope pos) (xLc mi g mt me (own.map (·.2))) := by
  obtain ⟨wi, pi, qi⟩ := hi
  obtain ⟨tg, pg, qg⟩ := hg
  obtain ⟨tt, pt, qt⟩ := ht
  obtain ⟨te, pe, qe⟩ := he
  refine ⟨_, fun W X hX tk => ?_, snd_lc rfl qi qg qt qe hws hpin⟩
  exact pe_lc (by rw [hX.calm]; exact hc) (by rw [hX.N]; exact hN) (pi W X hX tk) (by rw [hX.N, hX.scope]; exact ok) (fun s H C cl fp => pg _ _ (inC_blk hX) takes0) (fun s H C cl fp => pt _ _ (inC_blk hX) takes0) (fun s H C cl fp => pe _ _ (inC_blk hX) takes0) (hs _)
theorem snd_put {t : WX → TE} {m : M Val} (i : Nat) (hp : notPin J i) (q : SndE c J t m) : SndS c J (fun W => tAsg (t W) (gName i)) (sAsg m (gNm i)) :=
  snd_asg (ws := [i]) q fun W s s' σ H O T F d v Q o r hg k => by
    cases hg
    obtain ⟨O', h, o'⟩ := o.put r i hp
    exact k _ _ O' o' ⟨fun _ _ h _ => h, by simp, fun a ha => .inl (by have := h a ha; simp only [List.mem_append]; exact this)⟩ ⟨by simp, fun j hj => by rw [List.getElem?_set_ne (fun e => hj (by simp [e]))]⟩
/-- name = [..] on one line, the name a local -/
theorem ss_lc {y : Str} {py : Pos} {elt tgt iter : Expr} {ifs : List Expr} {scope : Scope} {pos spos : Pos} {ws : List Nat} {mi : M (List D)} {g : D → Sl → Option Sl} {mt : M Bool} {me : M Val} (i : Nat) (own : List (Str × Nat)) (hc : c.calm = true) (hN : c.N.Nodup) (hy : c.N[i]? = some y := by rfl) (hyl : c.scope.names.lookup y = some .local := by rfl) (hp : notPin J i)
    (hsw : ∀ env : Env, env.scope = c.scope → swapsWith (.ListComp elt [⟨tgt, iter, ifs, 0⟩] scope pos) (some (.Name y py)) spos.line env = pure true) (hi : SI c J tgt iter mi) (ok : BlkOk c.N c.scope scope own)
    (hg : SN (blkX c scope) J ws tgt g) (ht : STl (blkX c scope) J ifs mt) (he : SE (blkX c scope) J elt me) (hws : ∀ i ∈ ws, i ∈ own.map (·.2)) (hpin : ∀ i ∈ own.map (·.2), notPin J i)
    (hs : ∀ env x, foldedSetIterable iter env x = pure x := by intro _ _; rfl) : SS c J (.Assign [.Name y py] (.ListComp elt [⟨tgt, iter, ifs, 0⟩] scope pos) spos) (sAsg (xLc mi g mt me (own.map (·.2))) (gNm i)) := by
  obtain ⟨wi, pi, qi⟩ := hi
  obtain ⟨tg, pg, qg⟩ := hg
  obtain ⟨tt, pt, qt⟩ := ht
  obtain ⟨te, pe, qe⟩ := he
  refine ⟨_, fun W X hX tk => ?_, snd_put i hp (snd_lc rfl qi qg qt qe hws hpin)⟩
  exact ps_setLc (by rw [hX.calm]; exact hc) (by rw [hX.N]; exact hN) (by rw [hX.N]; exact hy) (by rw [hX.scope]; exact hyl) (hsw _ hX.scope) (pi W X hX tk) (by rw [hX.N, hX.scope]; exact ok) (fun s H C cl fp => pg _ _ (inC_blk hX) takes0) (fun s H C cl fp => pt _ _ (inC_blk hX) takes0) (fun s H C cl fp => pe _ _ (inC_blk hX) takes0) (hs _)
end
end VL
/-! VL 9: what the operators and the built-ins do, on trees -/
namespace VL
open PySem PySem.Spec L2

/-! ### trees as the library's data -/
mutual
def py : D → PyData
  | .non => .none
  | .bl b => .bool b
  | .int i => .int i
  | .str x => .str x
  | .lst _ xs => .list (pys xs)
  | .wl xs => .list (pys xs)
  | .tup xs => .tuple (pys xs)
  | .dK _ _ _ => .dict []
  | .dT _ _ _ => .dict []
def pys : List D → List PyData
  | [] => []
  | d :: ds => py d :: pys ds
end
theorem pys_map : ∀ ds : List D, pys ds = ds.map py
  | [] => rfl
  | d :: ds => by rw [pys, pys_map ds, List.map_cons]
/-- data of at most k levels without dicts -/
def okD : Nat → D → Bool
  | _, .non => true
  | _, .bl _ => true
  | _, .int _ => true
  | _, .str x => PyData.canLay0 (.str x)
  | 0, _ => false
  | k + 1, .lst _ xs => xs.all (okD k)
  | k + 1, .wl xs => xs.all (okD k)
  | k + 1, .tup xs => xs.all (okD k)
  | _ + 1, .dK _ _ _ => false
  | _ + 1, .dT _ _ _ => false
section
variable {K : Frag} {H : Hp} {L : List Addr}
theorem okD_all {k : Nat} : ∀ {ds : List D}, (∀ d ∈ ds, okD k d = true → (py d).canLay0 = true ∧ (py d).depth ≤ k) → ds.all (okD k) = true → PyData.canLayAll0 (pys ds) = true ∧ PyData.depthAll (pys ds) ≤ k
  | [], _, _ => ⟨rfl, Nat.zero_le _⟩
  | d :: ds, h, a => by
    rw [List.all_cons, Bool.and_eq_true] at a
    obtain ⟨h1, h2⟩ := h d List.mem_cons_self a.1
    obtain ⟨h3, h4⟩ := okD_all (fun e he => h e (List.mem_cons_of_mem _ he)) a.2
    refine ⟨by simp [pys, PyData.canLayAll0, h1, h3], ?_⟩
    simp only [pys, PyData.depthAll]
    omega
theorem okD_lay : ∀ (k : Nat) (d : D), okD k d = true → (py d).canLay0 = true ∧ (py d).depth ≤ k
  | k, .non, _ => ⟨rfl, Nat.zero_le _⟩
  | k, .bl _, _ => ⟨rfl, Nat.zero_le _⟩
  | k, .int _, _ => ⟨rfl, Nat.zero_le _⟩
  | k, .str x, h => by
    refine ⟨?_, Nat.zero_le _⟩
    cases k <;> exact h
  | 0, .lst _ _, h => by cases h
  | 0, .wl _, h => by cases h
  | 0, .tup _, h => by cases h
  | 0, .dK _ _ _, h => by cases h
  | 0, .dT _ _ _, h => by cases h
  | k + 1, .lst _ xs, h => by
    obtain ⟨h1, h2⟩ := okD_all (fun d _ => okD_lay k d) (show xs.all (okD k) = true from h)
    exact ⟨h1, Nat.succ_le_succ h2⟩
  | k + 1, .wl xs, h => by
    obtain ⟨h1, h2⟩ := okD_all (fun d _ => okD_lay k d) (show xs.all (okD k) = true from h)
    exact ⟨h1, Nat.succ_le_succ h2⟩
  | k + 1, .tup xs, h => by
    obtain ⟨h1, h2⟩ := okD_all (fun d _ => okD_lay k d) (show xs.all (okD k) = true from h)
    exact ⟨h1, Nat.succ_le_succ h2⟩
  | k + 1, .dK _ _ _, h => by cases h
  | k + 1, .dT _ _ _, h => by cases h
theorem okD_shaped {d : D} (h : okD 60 d = true) : SeqAt.shaped (py d) = true := by
  obtain ⟨h1, h2⟩ := okD_lay 60 d h
  unfold SeqAt.shaped
  rw [h1, Bool.true_and]
  exact decide_eq_true (by omega)
theorem dp_all {k : Nat} : ∀ {ds : List D} {vs : List V} {T : List Addr}, (∀ d ∈ ds, ∀ v T, okD k d = true → Rp K H L d v T → Dp K H v (py d)) → ds.all (okD k) = true → Rps K H L ds vs T → DpAll K H vs (pys ds)
  | [], _, _, _, _, r => by rw [r.1]; exact .nil
  | d :: ds, _, _, h, a, r => by
    rw [List.all_cons, Bool.and_eq_true] at a
    obtain ⟨v, vs', T1, T2, rfl, rfl, r1, r2⟩ := r
    exact .cons (h d List.mem_cons_self v T1 a.1 r1) (dp_all (fun e he => h e (List.mem_cons_of_mem _ he)) a.2 r2)
theorem dp_of : ∀ (k : Nat) (d : D) (v : V) (T : List Addr), okD k d = true → Rp K H L d v T → Dp K H v (py d)
  | k, .non, _, _, _, r => by rw [r.1]; exact .non
  | k, .bl b, _, _, _, r => by rw [r.1]; exact .bl b
  | k, .int i, _, _, _, r => by rw [r.1]; exact .int i
  | k, .str x, _, _, _, r => by rw [r.1]; exact .str x
  | 0, .lst _ _, _, _, h, _ => by cases h
  | 0, .wl _, _, _, h, _ => by cases h
  | 0, .tup _, _, _, h, _ => by cases h
  | 0, .dK _ _ _, _, _, h, _ => by cases h
  | 0, .dT _ _ _, _, _, h, _ => by cases h
  | k + 1, .lst true xs, _, _, h, r => by
    obtain ⟨a, vs, T', rfl, h2, rfl, h3⟩ := r
    exact .lst (SqL.of h2) (dp_all (fun d _ v T => dp_of k d v T) (show xs.all (okD k) = true from h) h3)
  | k + 1, .lst false xs, _, _, h, r => by
    obtain ⟨a, vs, rfl, h2, rfl, h3⟩ := r
    exact .lst h2.sq (dp_all (fun d _ v T => dp_of k d v T) (show xs.all (okD k) = true from h) h3)
  | k + 1, .wl xs, _, _, h, r => by
    obtain ⟨a, vs, rfl, h2, rfl, h3⟩ := r
    exact .lst h2.sq (dp_all (fun d _ v T => dp_of k d v T) (show xs.all (okD k) = true from h) h3)
  | k + 1, .tup xs, _, _, h, r => by
    obtain ⟨a, vs, rfl, h2, h3⟩ := r
    exact .tup h2 (dp_all (fun d _ v T => dp_of k d v T) (show xs.all (okD k) = true from h) h3)
  | k + 1, .dK _ _ _, _, _, h, _ => by cases h
  | k + 1, .dT _ _ _, _, _, h, _ => by cases h
/-- a list of any kind -/
theorem Rp.seqL {o : Bool} {xs : List D} {v : V} {T : List Addr} (r : Rp K H L (.lst o xs) v T) : ∃ a vs T', v = .ref a ∧ H a = some (.lst vs) ∧ Rps K H L xs vs T' ∧ T'.Sublist T := by
  cases o with
  | true =>
    obtain ⟨a, vs, T', rfl, h2, rfl, h3⟩ := r
    exact ⟨a, vs, T', rfl, h2, h3, List.sublist_cons_self _ _⟩
  | false =>
    obtain ⟨a, vs, rfl, h2, rfl, h3⟩ := r
    exact ⟨a, vs, [], rfl, h2.1, h3, List.Sublist.refl _⟩
theorem rps1 {ds : D} {vs : List V} {T : List Addr} (r : Rps K H L [ds] vs T) : ∃ v, vs = [v] ∧ Rp K H L ds v T := by
  obtain ⟨v, vs', T1, T2, rfl, rfl, r1, rfl, rfl⟩ := r
  exact ⟨v, rfl, by simpa using r1⟩
theorem rps2 {d e : D} {vs : List V} {T : List Addr} (r : Rps K H L [d, e] vs T) : ∃ v w T1 T2, vs = [v, w] ∧ T = T1 ++ T2 ∧ Rp K H L d v T1 ∧ Rp K H L e w T2 := by
  obtain ⟨v, vs', T1, T2, rfl, rfl, r1, r2⟩ := r
  obtain ⟨w, rfl, r3⟩ := rps1 r2
  exact ⟨v, w, T1, T2, rfl, rfl, r1, r3⟩
end

/-- a result that needs nothing of the heap -/
theorem opS {K : Frag} {r : List V → Hp → VK → Prop} {f : List D → Option D} (h : ∀ H L T ds vs d (Q : VK), Rps K H L ds vs T → f ds = some d → (∀ v, (∀ L', Rp K H L' d v []) → Q v H) → r vs H Q) : OpV K r f :=
  fun H T R ds vs d Q rs nd _ hf q => h H (T ++ R) T ds vs d Q rs hf fun v rv => q v H [] (rv _) (by simpa using (List.nodup_append.mp nd).2.1) (fun _ _ h => h) (by simp)
theorem OpV.or {K : Frag} {r r' : List V → Hp → VK → Prop} {f f' : List D → Option D} (h : OpV K r f) (h' : OpV K r' f') : OpV K (fun vs H Q => r vs H Q ∨ r' vs H Q) (fun ds => (f ds).or (f' ds)) :=
  fun H T R ds vs d Q rs nd hR hf q => by
    cases e : f ds with
    | some x =>
      simp only [e, Option.some_or] at hf
      exact .inl (h H T R ds vs d Q rs nd hR (by rw [e]; exact hf) q)
    | none =>
      simp only [e, Option.none_or] at hf
      exact .inr (h' H T R ds vs d Q rs nd hR hf q)
/-- a new list -/
theorem newL {K : Frag} {H : Hp} {T T' R : List Addr} {xs : List D} {vs : List V} {Q : VK} (rs : Rps K H (T ++ R) xs vs T') (hs : ∀ a ∈ T', a ∈ T) (nd' : T'.Nodup) (nd : (T ++ R).Nodup) (hR : ∀ a ∈ R, H a ≠ none)
    (q : ∀ v H' T', Rp K H' (T' ++ R) (.lst true xs) v T' → (T' ++ R).Nodup → (∀ a u, H a = some u → H' a = some u) → (∀ a ∈ T', a ∈ T ∨ H a = none) → Q v H') : ∀ p, H p = none → Q (.ref p) (upd H p (.lst vs)) := fun p hp => by
  have hR' : (T' ++ R).Nodup := List.nodup_append.mpr ⟨nd', (List.nodup_append.mp nd).2.1, fun a ha b hb e => (List.nodup_append.mp nd).2.2 a (hs a ha) b hb e⟩
  refine q _ _ (p :: T') ⟨p, vs, T', rfl, upd_same, rfl, rs.ext (upd_ext hp) fun a h => ?_⟩ (List.nodup_cons.mpr ⟨free_in rs hR hp, hR'⟩) (upd_ext hp) fun a h => ?_
  · rcases List.mem_cons.mp h with rfl | h
    · exact .inr hp
    · rcases List.mem_append.mp h with z | z
      · exact .inl (List.mem_append_left _ (hs a z))
      · exact .inl (List.mem_append_right _ z)
  · rcases List.mem_cons.mp h with rfl | h
    · exact .inr hp
    · exact .inl (hs a h)
theorem newT {K : Frag} {H : Hp} {T T' R : List Addr} {xs : List D} {vs : List V} {Q : VK} (rs : Rps K H (T ++ R) xs vs T') (hs : ∀ a ∈ T', a ∈ T) (nd' : T'.Nodup) (nd : (T ++ R).Nodup)
    (q : ∀ v H' T', Rp K H' (T' ++ R) (.tup xs) v T' → (T' ++ R).Nodup → (∀ a u, H a = some u → H' a = some u) → (∀ a ∈ T', a ∈ T ∨ H a = none) → Q v H') : ∀ p, H p = none → Q (.ref p) (upd H p (.tup vs)) := fun p hp => by
  have hR' : (T' ++ R).Nodup := List.nodup_append.mpr ⟨nd', (List.nodup_append.mp nd).2.1, fun a ha b hb e => (List.nodup_append.mp nd).2.2 a (hs a ha) b hb e⟩
  refine q _ _ T' ⟨p, vs, rfl, SqT.of upd_same, rs.ext (upd_ext hp) fun a h => .inl ?_⟩ hR' (upd_ext hp) fun a h => .inl (hs a h)
  rcases List.mem_append.mp h with z | z
  · exact List.mem_append_left _ (hs a z)
  · exact List.mem_append_right _ z

/-! ### arithmetic -/
def fI2 (g : Int → Int → Int) : List D → Option D
  | [.int i, .int j] => some (.int (g i j))
  | _ => none
def fI2c (C : Int → Int → Bool) (g : Int → Int → Int) : List D → Option D
  | [.int i, .int j] => if C i j = true then some (.int (g i j)) else none
  | _ => none
theorem op_i2 {K : Frag} {g : Int → Int → Int} : OpV K (r2V (rI0 fun i j => .int (g i j))) (fI2 g) := opS fun H L T ds vs d Q r hf q => by
  unfold fI2 at hf
  split at hf
  · cases hf
    obtain ⟨v, w, T1, T2, rfl, rfl, ⟨rfl, _⟩, rfl, _⟩ := rps2 r
    exact ⟨_, _, rfl, rfl, q _ fun _ => ⟨rfl, rfl⟩⟩
  · cases hf
theorem op_i2c {K : Frag} {C : Int → Int → Bool} {C' : Int → Int → Prop} {g : Int → Int → Int} (hC : ∀ i j, C i j = true → C' i j) : OpV K (r2V (rI C' fun i j => .int (g i j))) (fI2c C g) := opS fun H L T ds vs d Q r hf q => by
  unfold fI2c at hf
  split at hf
  · split at hf
    · rename_i hc
      cases hf
      obtain ⟨v, w, T1, T2, rfl, rfl, ⟨rfl, _⟩, rfl, _⟩ := rps2 r
      exact ⟨_, _, rfl, rfl, hC _ _ hc, q _ fun _ => ⟨rfl, rfl⟩⟩
    · cases hf
  · cases hf
def fCat : List D → Option D
  | [.lst _ xs, .lst _ ys] => if fits (xs.length + ys.length) = true then some (.lst true (xs ++ ys)) else none
  | _ => none
theorem op_fcat {K : Frag} : OpV K (r2V rCat) fCat := by
  intro H T R ds vs d Q rs nd hR hf q
  unfold fCat at hf
  split at hf
  · split at hf
    · rename_i hz
      cases hf
      obtain ⟨v, w, T1, T2, rfl, rfl, r1, r2⟩ := rps2 rs
      obtain ⟨a, xs', A, rfl, h1, q1, s1⟩ := r1.seqL
      obtain ⟨b, ys', B, rfl, h2, q2, s2⟩ := r2.seqL
      have hl := fits_line hz
      rw [q1.length, q2.length] at hl
      exact ⟨a, b, xs', ys', rfl, rfl, h1, h2, hl, newL (Rps.append q1 q2) (fun c h => (s1.append s2).subset h) ((s1.append s2).nodup (List.nodup_append.mp nd).1) nd hR q⟩
    · cases hf
  · cases hf
def fStrCat : List D → Option D
  | [.str x, .str y] => if fits (x.length + y.length) = true then some (.str (x ++ y)) else none
  | _ => none
theorem op_fstr {K : Frag} : OpV K (r2V (fun x y H Q => ∃ i j, x = .str i ∧ y = .str j ∧ i.length + j.length ≤ sizeLine ∧ Q (.str (i ++ j)) H)) fStrCat := opS fun H L T ds vs d Q r hf q => by
  unfold fStrCat at hf
  split at hf
  · split at hf
    · rename_i hz
      cases hf
      obtain ⟨v, w, T1, T2, rfl, rfl, ⟨rfl, _⟩, rfl, _⟩ := rps2 r
      exact ⟨_, _, rfl, rfl, fits_line hz, q _ fun _ => ⟨rfl, rfl⟩⟩
    · cases hf
  · cases hf
def fRep : List D → Option D
  | [.lst _ xs, .int k] => if noOwns xs = true ∧ i62 k = true ∧ fits (xs.length * k.toNat) = true then some (.lst true (List.replicate k.toNat xs).flatten) else none
  | _ => none
theorem rps_rep {K : Frag} {H : Hp} {L : List Addr} {xs : List D} {vs : List V} (r : Rps K H L xs vs []) : ∀ n : Nat, Rps K H L (List.replicate n xs).flatten (List.replicate n vs).flatten []
  | 0 => ⟨rfl, rfl⟩
  | n + 1 => by
    rw [List.replicate_succ, List.replicate_succ, List.flatten_cons, List.flatten_cons]
    exact Rps.append (T := []) (U := []) r (rps_rep r n)
theorem op_frep {K : Frag} : OpV K (r2V rRep) fRep := by
  intro H T R ds vs d Q rs nd hR hf q
  unfold fRep at hf
  split at hf
  · split at hf
    · rename_i hz
      cases hf
      obtain ⟨v, w, T1, T2, rfl, rfl, r1, rfl, _⟩ := rps2 rs
      obtain ⟨a, xs', A, rfl, h1, q1, s1⟩ := r1.seqL
      have e := q1.free hz.1
      subst e
      have hk := i62_ok hz.2.1
      have hl := fits_line hz.2.2
      rw [q1.length] at hl
      exact ⟨a, _, xs', rfl, rfl, h1, by omega, by omega, hl, newL (rps_rep q1 _) (by simp) (by simp) nd hR q⟩
    · cases hf
  · cases hf
def fAdd (ds : List D) : Option D := (fI2 (· + ·) ds).or ((fStrCat ds).or (fCat ds))
def fSub (ds : List D) : Option D := fI2 (· - ·) ds
def cMul (i j : Int) : Bool := i64 i || i64 j
theorem cMul_ok {i j : Int} (h : cMul i j = true) : CMul i j := (Bool.or_eq_true_iff.mp h).imp i64_ok i64_ok
def fMul (ds : List D) : Option D := (fI2c cMul (· * ·) ds).or (fRep ds)
def fMod (ds : List D) : Option D := fI2c (fun _ j => decide (0 < j)) (· % ·) ds
def cDiv (_ j : Int) : Bool := decide (0 < j) && ltI j 1073741824
theorem cDiv_ok {i j : Int} (h : cDiv i j = true) : 0 < j ∧ j < 1073741824 := by
  obtain ⟨h1, h2⟩ := Bool.and_eq_true_iff.mp h
  rw [ltI_eq] at h2
  exact ⟨of_decide_eq_true h1, of_decide_eq_true h2⟩
def fDiv (ds : List D) : Option D := fI2c cDiv (· / ·) ds
def cPow (i j : Int) : Bool := decide (0 ≤ j) && ltI j 1000001 && i64 i
theorem cPow_ok {i j : Int} (h : cPow i j = true) : CPow i j := by
  obtain ⟨h12, h3⟩ := Bool.and_eq_true_iff.mp h
  obtain ⟨h1, h2⟩ := Bool.and_eq_true_iff.mp h12
  rw [ltI_eq] at h2
  have h1 := of_decide_eq_true h1
  have h2 := of_decide_eq_true h2
  have h3 := i64_ok h3
  exact ⟨h1, by omega, by omega⟩
def fPow (ds : List D) : Option D := fI2c cPow (fun i j => i ^ j.toNat) ds
def fNeg : List D → Option D
  | [.int i] => some (.int (-i))
  | _ => none
section
variable {c : Ctx} {J : List (Nat × V)} {a b : Expr} {pos : Pos} {ma mb : M Val}
theorem se_add (ha : SE c J a ma) (hb : SE c J b mb) : SE c J (.BinOp a .Add b pos) (e2 ma mb fAdd) :=
  se_bin (r := fun x y H Q => rI0 (fun i j => .int (i + j)) x y H Q ∨ (∃ i j, x = V.str i ∧ y = V.str j ∧ i.length + j.length ≤ sizeLine ∧ Q (.str (i ++ j)) H) ∨ rCat x y H Q) (fun X hX => op_add.or (op_add_str.or op_cat))
    (by
      have h := OpV.or (K := c.K) (op_i2 (g := (· + ·))) (op_fstr.or op_fcat)
      intro H T R ds vs d Q rs nd hR hf q
      have := h H T R ds vs d Q rs nd hR hf q
      rcases vs with _ | ⟨x, _ | ⟨y, _ | _⟩⟩ <;> first | exact this | (rcases this with z | z | z <;> exact z)) ha hb
theorem se_sub (ha : SE c J a ma) (hb : SE c J b mb) : SE c J (.BinOp a .Sub b pos) (e2 ma mb fSub) := se_bin (fun X hX => op_sub) op_i2 ha hb
theorem se_mul (ha : SE c J a ma) (hb : SE c J b mb) : SE c J (.BinOp a .Mult b pos) (e2 ma mb fMul) :=
  se_bin (r := fun x y H Q => rI CMul (fun i j => .int (i * j)) x y H Q ∨ rRep x y H Q) (fun X hX => op_mul.or op_rep)
    (by
      have h := OpV.or (K := c.K) (op_i2c (C := cMul) (C' := CMul) (g := (· * ·)) fun i j h => cMul_ok h) op_frep
      intro H T R ds vs d Q rs nd hR hf q
      have := h H T R ds vs d Q rs nd hR hf q
      rcases vs with _ | ⟨x, _ | ⟨y, _ | _⟩⟩ <;> first | exact this | (rcases this with z | z <;> exact z)) ha hb
theorem se_mod (ha : SE c J a ma) (hb : SE c J b mb) : SE c J (.BinOp a .Mod b pos) (e2 ma mb fMod) := se_bin (fun X hX => op_mod) (op_i2c fun i j h => by have h' := of_decide_eq_true h; exact h') ha hb
theorem se_div (ha : SE c J a ma) (hb : SE c J b mb) : SE c J (.BinOp a .FloorDiv b pos) (e2 ma mb fDiv) := se_bin (fun X hX => op_fdiv) (op_i2c fun i j h => cDiv_ok h) ha hb
theorem se_pow (ha : SE c J a ma) (hb : SE c J b mb) : SE c J (.BinOp a .Pow b pos) (e2 ma mb fPow) := se_bin (fun X hX => op_pow) (op_i2c fun i j h => cPow_ok h) ha hb
theorem se_neg (ha : SE c J a ma) : SE c J (.UnaryOp .USub a pos) (e1 ma fNeg) := se_un (fun X hX => un_neg) (opS fun H L T ds vs d Q r hf q => by
  unfold fNeg at hf
  split at hf
  · cases hf
    obtain ⟨v, rfl, rfl, _⟩ := rps1 r
    exact ⟨_, rfl, q _ fun _ => ⟨rfl, rfl⟩⟩
  · cases hf) ha
end

/-! ### comparisons -/
def fCmp (g : Int → Int → Bool) : List D → Option D
  | [.int i, .int j] => some (.bl (g i j))
  | _ => none
theorem op_cmpI {K : Frag} {g : Int → Int → Bool} : OpV K (r2V (rI0 fun i j => .bl (g i j))) (fCmp g) := opS fun H L T ds vs d Q r hf q => by
  unfold fCmp at hf
  split at hf
  · cases hf
    obtain ⟨v, w, T1, T2, rfl, rfl, ⟨rfl, _⟩, rfl, _⟩ := rps2 r
    exact ⟨_, _, rfl, rfl, q _ fun _ => ⟨rfl, rfl⟩⟩
  · cases hf
def eqD (d e : D) : Bool := PyData.eqv (py d) (py e)
def fEq : List D → Option D
  | [d, e] => if okD 60 d = true ∧ okD 60 e = true then some (.bl (eqD d e)) else none
  | _ => none
def fNe : List D → Option D
  | [d, e] => if okD 60 d = true ∧ okD 60 e = true then some (.bl (!eqD d e)) else none
  | _ => none
theorem op_eqd {K : Frag} : OpV K (r2V (rEqD K)) fEq := opS fun H L T ds vs d Q r hf q => by
  unfold fEq at hf
  split at hf
  · split at hf
    · rename_i hk
      cases hf
      obtain ⟨v, w, T1, T2, rfl, rfl, r1, r2⟩ := rps2 r
      exact ⟨_, _, dp_of 60 _ _ _ hk.1 r1, dp_of 60 _ _ _ hk.2 r2, okD_shaped hk.1, okD_shaped hk.2, q _ fun _ => ⟨rfl, rfl⟩⟩
    · cases hf
  · cases hf
theorem op_ned {K : Frag} : OpV K (r2V (rNeD K)) fNe := opS fun H L T ds vs d Q r hf q => by
  unfold fNe at hf
  split at hf
  · split at hf
    · rename_i hk
      cases hf
      obtain ⟨v, w, T1, T2, rfl, rfl, r1, r2⟩ := rps2 r
      exact ⟨_, _, dp_of 60 _ _ _ hk.1 r1, dp_of 60 _ _ _ hk.2 r2, okD_shaped hk.1, okD_shaped hk.2, q _ fun _ => ⟨rfl, rfl⟩⟩
    · cases hf
  · cases hf
/-- x in xs, of lists and tuples -/
def inD (d : D) (xs : List D) : Bool := xs.any fun z => eqD z d
def fIn : List D → Option D
  | [d, .lst o xs] => if okD 60 d = true ∧ okD 60 (.lst o xs) = true then some (.bl (inD d xs)) else none
  | [d, .tup xs] => if okD 60 d = true ∧ okD 60 (.tup xs) = true then some (.bl (inD d xs)) else none
  | _ => none
def fNotIn : List D → Option D
  | [d, .lst o xs] => if okD 60 d = true ∧ okD 60 (.lst o xs) = true then some (.bl (!inD d xs)) else none
  | [d, .tup xs] => if okD 60 d = true ∧ okD 60 (.tup xs) = true then some (.bl (!inD d xs)) else none
  | _ => none
def rInA (K : Frag) (neg : Bool) : R2 := fun x y H Q => ∃ d ds, Dp K H x d ∧ (Dp K H y (.list ds) ∧ SeqAt.shaped (.list ds) = true ∨ Dp K H y (.tuple ds) ∧ SeqAt.shaped (.tuple ds) = true) ∧ SeqAt.shaped d = true ∧ Q (.bl (if neg then !(ds.any fun z => PyData.eqv z d) else ds.any fun z => PyData.eqv z d)) H
theorem op_inA {X : Cx} (hu : X.A.units + 65 < cLine) : OpR X (compareOp .In) (rInA X.K false) := fun pins s σ H x y v u Q I rx ry h => by
  obtain ⟨d, ds, hd, hs, sd, q⟩ := h
  obtain ⟨as, ra⟩ := Dp.reads I d x v hd rx
  rcases hs with ⟨he, se⟩ | ⟨he, se⟩ <;> obtain ⟨bs, rb⟩ := Dp.reads I _ y u he ry
  · exact SeqAt.in_list_reads rb ra (SeqAt.canLay_of_shaped se) (SeqAt.canLay_of_shaped sd) (PyProof.Rows.room_in_shaped sd hu) ⟨.bl _, H, I, rfl, q⟩
  · exact SeqAt.in_tuple_reads rb ra (SeqAt.canLay_of_shaped se) (SeqAt.canLay_of_shaped sd) (PyProof.Rows.room_in_shaped sd hu) ⟨.bl _, H, I, rfl, q⟩
theorem op_notInA {X : Cx} (hu : X.A.units + 65 < cLine) : OpR X (compareOp .NotIn) (rInA X.K true) := fun pins s σ H x y v u Q I rx ry h => by
  obtain ⟨d, ds, hd, hs, sd, q⟩ := h
  obtain ⟨as, ra⟩ := Dp.reads I d x v hd rx
  rcases hs with ⟨he, se⟩ | ⟨he, se⟩ <;> obtain ⟨bs, rb⟩ := Dp.reads I _ y u he ry
  · exact SeqAt.notIn_list_reads rb ra (SeqAt.canLay_of_shaped se) (SeqAt.canLay_of_shaped sd) (PyProof.Rows.room_in_shaped sd hu) ⟨.bl _, H, I, rfl, q⟩
  · exact SeqAt.notIn_tuple_reads rb ra (SeqAt.canLay_of_shaped se) (SeqAt.canLay_of_shaped sd) (PyProof.Rows.room_in_shaped sd hu) ⟨.bl _, H, I, rfl, q⟩
theorem any_pys (d : D) : ∀ xs : List D, ((pys xs).any fun z => PyData.eqv z (py d)) = inD d xs
  | [] => rfl
  | x :: xs => by
    rw [pys, List.any_cons, any_pys d xs]
    rfl
theorem op_fin {K : Frag} : OpV K (r2V (rInA K false)) fIn := opS fun H L T ds vs d Q r hf q => by
  unfold fIn at hf
  split at hf
  · split at hf
    · rename_i hk
      cases hf
      obtain ⟨v, w, T1, T2, rfl, rfl, r1, r2⟩ := rps2 r
      exact ⟨_, _, dp_of 60 _ _ _ hk.1 r1, .inl ⟨dp_of 60 _ _ _ hk.2 r2, okD_shaped hk.2⟩, okD_shaped hk.1, by rw [any_pys]; exact q _ fun _ => ⟨rfl, rfl⟩⟩
    · cases hf
  · split at hf
    · rename_i hk
      cases hf
      obtain ⟨v, w, T1, T2, rfl, rfl, r1, r2⟩ := rps2 r
      exact ⟨_, _, dp_of 60 _ _ _ hk.1 r1, .inr ⟨dp_of 60 _ _ _ hk.2 r2, okD_shaped hk.2⟩, okD_shaped hk.1, by rw [any_pys]; exact q _ fun _ => ⟨rfl, rfl⟩⟩
    · cases hf
  · cases hf
theorem op_fnotin {K : Frag} : OpV K (r2V (rInA K true)) fNotIn := opS fun H L T ds vs d Q r hf q => by
  unfold fNotIn at hf
  split at hf
  · split at hf
    · rename_i hk
      cases hf
      obtain ⟨v, w, T1, T2, rfl, rfl, r1, r2⟩ := rps2 r
      exact ⟨_, _, dp_of 60 _ _ _ hk.1 r1, .inl ⟨dp_of 60 _ _ _ hk.2 r2, okD_shaped hk.2⟩, okD_shaped hk.1, by rw [any_pys]; exact q _ fun _ => ⟨rfl, rfl⟩⟩
    · cases hf
  · split at hf
    · rename_i hk
      cases hf
      obtain ⟨v, w, T1, T2, rfl, rfl, r1, r2⟩ := rps2 r
      exact ⟨_, _, dp_of 60 _ _ _ hk.1 r1, .inr ⟨dp_of 60 _ _ _ hk.2 r2, okD_shaped hk.2⟩, okD_shaped hk.1, by rw [any_pys]; exact q _ fun _ => ⟨rfl, rfl⟩⟩
    · cases hf
  · cases hf
end VL
/-! VL 10: the constructs' rules over trees -/
namespace VL
open PySem PySem.Spec L2
theorem InC.u64 {c : Ctx} {X : Cx} (hX : InC c X) : X.A.units + 64 < cLine := hX.room.units
theorem InC.u65 {c : Ctx} {X : Cx} (hX : InC c X) : X.A.units + 65 < cLine := by have := hX.room.un; omega
theorem InC.gl {c : Ctx} {X : Cx} (hX : InC c X) {x : Str} (h : c.scope.names.lookup x = some .globalImplicit) : Gl X x := by
  show X.env.scope.names.lookup x = _
  rw [hX.scope]; exact h
section
variable {c : Ctx} {J : List (Nat × V)} {a b : Expr} {pos : Pos} {ma mb : M Val}
theorem se_lt (ha : SE c J a ma) (hb : SE c J b mb) : SE c J (.Compare a [.Lt] [b] pos) (e2 ma mb (fCmp fun i j => decide (i < j))) := se_cmp (fun _ _ => op_lt) op_cmpI ha hb
theorem se_le (ha : SE c J a ma) (hb : SE c J b mb) : SE c J (.Compare a [.LtE] [b] pos) (e2 ma mb (fCmp fun i j => decide (i ≤ j))) := se_cmp (fun _ _ => op_le) op_cmpI ha hb
theorem se_gt (ha : SE c J a ma) (hb : SE c J b mb) : SE c J (.Compare a [.Gt] [b] pos) (e2 ma mb (fCmp fun i j => decide (j < i))) := se_cmp (fun _ _ => op_gt) op_cmpI ha hb
theorem se_ge (ha : SE c J a ma) (hb : SE c J b mb) : SE c J (.Compare a [.GtE] [b] pos) (e2 ma mb (fCmp fun i j => decide (j ≤ i))) := se_cmp (fun _ _ => op_ge) op_cmpI ha hb
theorem st_lt (ha : SE c J a ma) (hb : SE c J b mb) : STs c J (.Compare a [.Lt] [b] pos) (tst (e2 ma mb (fCmp fun i j => decide (i < j)))) := st_cmp (fun _ _ => op_lt) op_cmpI ha hb
theorem st_le (ha : SE c J a ma) (hb : SE c J b mb) : STs c J (.Compare a [.LtE] [b] pos) (tst (e2 ma mb (fCmp fun i j => decide (i ≤ j)))) := st_cmp (fun _ _ => op_le) op_cmpI ha hb
theorem st_gt (ha : SE c J a ma) (hb : SE c J b mb) : STs c J (.Compare a [.Gt] [b] pos) (tst (e2 ma mb (fCmp fun i j => decide (j < i)))) := st_cmp (fun _ _ => op_gt) op_cmpI ha hb
theorem st_ge (ha : SE c J a ma) (hb : SE c J b mb) : STs c J (.Compare a [.GtE] [b] pos) (tst (e2 ma mb (fCmp fun i j => decide (j ≤ i)))) := st_cmp (fun _ _ => op_ge) op_cmpI ha hb
theorem eqR {X : Cx} (hX : InC c X) : OpR X (compareOp .Eq) (rEqD c.K) := by rw [← hX.K]; exact op_eqD hX.u64
theorem neR {X : Cx} (hX : InC c X) : OpR X (compareOp .NotEq) (rNeD c.K) := by rw [← hX.K]; exact op_neD hX.u64
theorem inR {X : Cx} (hX : InC c X) : OpR X (compareOp .In) (rInA c.K false) := by rw [← hX.K]; exact op_inA hX.u65
theorem notinR {X : Cx} (hX : InC c X) : OpR X (compareOp .NotIn) (rInA c.K true) := by rw [← hX.K]; exact op_notInA hX.u65
theorem se_eq (ha : SE c J a ma) (hb : SE c J b mb) : SE c J (.Compare a [.Eq] [b] pos) (e2 ma mb fEq) := se_cmp (fun _ h => eqR h) op_eqd ha hb
theorem se_ne (ha : SE c J a ma) (hb : SE c J b mb) : SE c J (.Compare a [.NotEq] [b] pos) (e2 ma mb fNe) := se_cmp (fun _ h => neR h) op_ned ha hb
theorem st_eq (ha : SE c J a ma) (hb : SE c J b mb) : STs c J (.Compare a [.Eq] [b] pos) (tst (e2 ma mb fEq)) := st_cmp (fun _ h => eqR h) op_eqd ha hb
theorem st_ne (ha : SE c J a ma) (hb : SE c J b mb) : STs c J (.Compare a [.NotEq] [b] pos) (tst (e2 ma mb fNe)) := st_cmp (fun _ h => neR h) op_ned ha hb
theorem se_in (ha : SE c J a ma) (hb : SE c J b mb) (hm : behindInMarks .In b = false := by rfl) : SE c J (.Compare a [.In] [b] pos) (e2 ma mb fIn) := se_cmp (fun _ h => inR h) op_fin ha hb hm
theorem se_notin (ha : SE c J a ma) (hb : SE c J b mb) (hm : behindInMarks .NotIn b = false := by rfl) : SE c J (.Compare a [.NotIn] [b] pos) (e2 ma mb fNotIn) := se_cmp (fun _ h => notinR h) op_fnotin ha hb hm
theorem st_in (ha : SE c J a ma) (hb : SE c J b mb) (hm : behindInMarks .In b = false := by rfl) : STs c J (.Compare a [.In] [b] pos) (tst (e2 ma mb fIn)) := st_cmp (fun _ h => inR h) op_fin ha hb hm
theorem st_notin (ha : SE c J a ma) (hb : SE c J b mb) (hm : behindInMarks .NotIn b = false := by rfl) : STs c J (.Compare a [.NotIn] [b] pos) (tst (e2 ma mb fNotIn)) := st_cmp (fun _ h => notinR h) op_fnotin ha hb hm

/-! ### items, slices -/
def fIx : List D → Option D
  | [.lst _ xs, .int i] => atI xs i
  | [.tup xs, .int i] => atI xs i
  | [.wl xs, .int i] => atI xs i
  | [.str z, .int i] => if fits z.length = true then (atI z.cps.toList i).map fun c => .str ⟨#[c]⟩ else none
  | _ => none
theorem atI_rps {K : Frag} {H : Hp} {L : List Addr} {xs : List D} {vs : List V} {T : List Addr} {i : Int} {d : D} (r : Rps K H L xs vs T) (h : atI xs i = some d) : ∃ v T1, atI vs i = some v ∧ Rp K H L d v T1 ∧ T1.Sublist T := by
  unfold atI at h ⊢
  rw [← r.length]
  cases e : ixN xs.length i with
  | none => rw [e] at h; cases h
  | some j =>
    rw [e] at h
    obtain ⟨v, T1, h1, h2, h3⟩ := r.get (i := j) (d := d) h
    exact ⟨v, T1, h1, h2, h3⟩
theorem op_ix {K : Frag} : OpV K (r2V (rIx K)) fIx := by
  intro H T R ds vs d Q rs nd hR hf q
  have fin : ∀ {v : V} {T1 : List Addr}, Rp K H (T ++ R) d v T1 → T1.Sublist T → Q v H := fun {v T1} r h =>
    q v H T1 (r.anti fun a ha => by
      rcases List.mem_append.mp ha with z | z
      · exact List.mem_append_left _ (h.subset z)
      · exact List.mem_append_right _ z) ((h.append (List.Sublist.refl R)).nodup nd) (fun _ _ h => h) fun a ha => .inl (h.subset ha)
  unfold fIx at hf
  split at hf
  · obtain ⟨v, w, T1, T2, rfl, rfl, r1, rfl, _⟩ := rps2 rs
    obtain ⟨p, xs', A, rfl, h1, q1, s1⟩ := r1.seqL
    obtain ⟨u, T3, g1, g2, g3⟩ := atI_rps q1 hf
    exact .inl ⟨p, xs', _, u, rfl, rfl, SqL.of h1, g1, fin g2 ((g3.trans s1).trans (List.sublist_append_left _ _))⟩
  · obtain ⟨v, w, T1, T2, rfl, rfl, ⟨p, xs', rfl, h1, q1⟩, rfl, _⟩ := rps2 rs
    obtain ⟨u, T3, g1, g2, g3⟩ := atI_rps q1 hf
    exact .inr (.inl ⟨p, xs', _, u, rfl, rfl, h1, g1, fin g2 (g3.trans (List.sublist_append_left _ _))⟩)
  · obtain ⟨v, w, T1, T2, rfl, rfl, ⟨p, xs', rfl, h1, rfl, q1⟩, rfl, _⟩ := rps2 rs
    obtain ⟨u, T3, g1, g2, g3⟩ := atI_rps q1 hf
    exact .inl ⟨p, xs', _, u, rfl, rfl, h1.sq, g1, fin g2 (g3.trans (by simp))⟩
  · rename_i z i
    split at hf
    · rename_i hz
      obtain ⟨v, w, T1, T2, rfl, rfl, ⟨rfl, _⟩, rfl, _⟩ := rps2 rs
      cases e : atI z.cps.toList i with
      | none => rw [e] at hf; cases hf
      | some ch =>
        rw [e] at hf
        cases hf
        exact .inr (.inr ⟨z, i, ch, rfl, rfl, fits_line hz, e, fin (T1 := []) ⟨rfl, rfl⟩ (by simp)⟩)
    · cases hf
  · cases hf
theorem se_ix (ha : SE c J a ma) (hb : SE c J b mb) (hs : PlainIx b := by intro _ _; rfl) : SE c J (.Subscript a b pos) (e2 ma mb fIx) := by
  obtain ⟨ta, pa, qa⟩ := ha
  obtain ⟨tb, pb, qb⟩ := hb
  exact ⟨_, fun W X hX tk => pe_ix (by rw [← hX.K]; exact ix_seq) (pa W X hX tk) (pb W X hX tk) hs, snd_bin qa qb op_ix⟩
def oV : Option Int → V
  | none => .non
  | some i => .int i
def Vo : V → Option Int
  | .int i => some i
  | _ => none
def SO (c : Ctx) (J : List (Nat × V)) (e : Option Expr) (m : M Val) : Prop := ∃ tl : WX → TO, (∀ W X, InC c X → Takes X W → PO X e (tl W)) ∧ SndE c J (fun W σ H Q => tl W σ H fun o H2 => Q (oV o) H2) m
theorem so_none : SO c J none (xC .non) := ⟨fun _ => tNoPart, fun _ _ _ _ => po_none, fun W s σ H O F Q o q => post_const (d := .non) o (fun _ => ⟨rfl, rfl⟩) q⟩
def xInt (m : M Val) : M Val := fun s => match m s with
  | .ok (_, .int i) s' e => .ok (true, .int i) s' e
  | .ok _ _ _ => .bad
  | .exc x s' => .exc x s'
  | .bad => .bad
theorem so_some {e : Expr} {m : M Val} (h : SE c J e m) : SO c J (some e) (xInt m) := by
  obtain ⟨t, p, q⟩ := h
  refine ⟨fun W => tPart (t W), fun W X hX tk => po_some (p W X hX tk), fun W s σ H O F Q o k => q W s σ H O F _ o ?_⟩
  unfold xInt at k
  cases h1 : m s with
  | bad => rw [h1] at k; exact k
  | exc x s1 => rw [h1] at k; exact k
  | ok bd s1 e1 =>
    obtain ⟨b, d⟩ := bd
    rw [h1] at k
    intro v H1 T1 O1 r1 o1 p1
    cases d with
    | int i =>
      obtain ⟨rfl, rfl⟩ := r1
      exact ⟨i, rfl, k (.int i) H1 [] O1 ⟨rfl, rfl⟩ (by simpa using o1) p1⟩
    | _ => exact k.elim
def oI : D → Option (Option Int)
  | .int i => some (some i)
  | .non => some none
  | _ => none
def cutD (xs : List D) (lo hi : Option Int) : List D := (xs.drop (HT.sIx xs.length 0 lo)).take (HT.sIx xs.length xs.length hi - HT.sIx xs.length 0 lo)
def fSl : List D → Option D
  | [.lst _ xs, l, u] => (match oI l, oI u with
    | some lo, some hi => some (.lst true (cutD xs lo hi))
    | _, _ => none)
  | _ => none
theorem rps_drop {K : Frag} {H : Hp} {L : List Addr} : ∀ (n : Nat) {xs : List D} {vs : List V} {T : List Addr}, Rps K H L xs vs T → ∃ T', Rps K H L (xs.drop n) (vs.drop n) T' ∧ T'.Sublist T
  | 0, xs, vs, T, r => ⟨T, by simpa using r, List.Sublist.refl _⟩
  | n + 1, [], vs, T, r => by
    obtain ⟨rfl, rfl⟩ := r
    exact ⟨[], ⟨rfl, rfl⟩, by simp⟩
  | n + 1, x :: xs, vs, T, r => by
    obtain ⟨v, vs', T1, T2, rfl, rfl, r1, r2⟩ := r
    obtain ⟨T', h1, h2⟩ := rps_drop n r2
    exact ⟨T', by simpa using h1, h2.trans (List.sublist_append_right _ _)⟩
theorem rps_take {K : Frag} {H : Hp} {L : List Addr} : ∀ (n : Nat) {xs : List D} {vs : List V} {T : List Addr}, Rps K H L xs vs T → ∃ T', Rps K H L (xs.take n) (vs.take n) T' ∧ T'.Sublist T
  | 0, xs, vs, T, r => ⟨[], by simp only [List.take_zero]; exact ⟨rfl, rfl⟩, by simp⟩
  | n + 1, [], vs, T, r => by
    obtain ⟨rfl, rfl⟩ := r
    exact ⟨[], ⟨rfl, rfl⟩, by simp⟩
  | n + 1, x :: xs, vs, T, r => by
    obtain ⟨v, vs', T1, T2, rfl, rfl, r1, r2⟩ := r
    obtain ⟨T', h1, h2⟩ := rps_take n r2
    exact ⟨T1 ++ T', ⟨v, _, T1, T', by simp, rfl, r1, h1⟩, List.Sublist.append (List.Sublist.refl _) h2⟩
def r3V (r : V → Option Int → Option Int → Hp → VK → Prop) : List V → Hp → VK → Prop := fun vs H Q => match vs with
  | [x, y, z] => r x (Vo y) (Vo z) H Q
  | _ => False
theorem oI_rp {K : Frag} {H : Hp} {L : List Addr} {d : D} {v : V} {T : List Addr} {o : Option Int} (r : Rp K H L d v T) (h : oI d = some o) : Vo v = o := by
  cases d with
  | int i => cases h; rw [r.1]; rfl
  | non => cases h; rw [r.1]; rfl
  | _ => cases h
theorem op_sl {K : Frag} : OpV K (r3V (rSlL K)) fSl := by
  intro H T R ds vs d Q rs nd hR hf q
  unfold fSl at hf
  split at hf
  · split at hf
    · rename_i lo hi hl hu
      cases hf
      obtain ⟨v, vs', T1, T2, rfl, rfl, r1, r2⟩ := rs
      obtain ⟨y, z, T3, T4, rfl, rfl, r3, r4⟩ := rps2 r2
      obtain ⟨p, xs', A, rfl, h1, q1, s1⟩ := r1.seqL
      obtain ⟨B, g1, g2⟩ := rps_drop (HT.sIx xs'.length 0 lo) q1
      obtain ⟨C, g3, g4⟩ := rps_take (HT.sIx xs'.length xs'.length hi - HT.sIx xs'.length 0 lo) g1
      have hs : C.Sublist (T1 ++ (T3 ++ T4)) := ((g4.trans g2).trans s1).trans (List.sublist_append_left _ _)
      refine ⟨p, xs', rfl, SqL.of h1, ?_⟩
      rw [oI_rp r3 hl, oI_rp r4 hu]
      unfold cutD at q
      rw [q1.length] at q
      exact newL g3 (fun a h => hs.subset h) (hs.nodup (List.nodup_append.mp nd).1) nd hR q
    · cases hf
  · cases hf
theorem se_sl {lo hi : Option Expr} {p2 : Pos} {ml mh : M Val} (ha : SE c J a ma) (hl : SO c J lo ml) (hh : SO c J hi mh) : SE c J (.Subscript a (.Slice lo hi none p2) pos) (eOp (aCons ma (aCons ml (aCons mh aNil))) fSl) := by
  obtain ⟨ta, pa, qa⟩ := ha
  obtain ⟨tl, pl, ql⟩ := hl
  obtain ⟨th, ph, qh⟩ := hh
  refine ⟨fun W => tSl (rSlL c.K) (ta W) (tl W) (th W), fun W X hX tk => by rw [← hX.K]; exact pe_slice sl_list (pa W X hX tk) (pl W X hX tk) (ph W X hX tk), ?_⟩
  have h := snd_op (snd_cons qa (snd_cons ql (snd_cons qh snd_nil))) (op_sl (K := c.K))
  intro W s σ H O F Q o k
  have e : ∀ (x : V), (fun (l : Option Int) (H2 : Hp) => th W σ H2 fun (u : Option Int) H3 => rSlL c.K x (Vo (oV l)) (Vo (oV u)) H3 Q) = fun l H2 => th W σ H2 fun u H3 => rSlL c.K x l u H3 Q := fun x => by
    funext l H2
    congr 1
    funext u H3
    cases l <;> cases u <;> rfl
  have hw := h W s σ H O F Q o k
  have e2 : (fun (x : V) (H1 : Hp) => tl W σ H1 fun (l : Option Int) (H2 : Hp) => th W σ H2 fun (u : Option Int) H3 => rSlL c.K x (Vo (oV l)) (Vo (oV u)) H3 Q) = fun x H1 => tl W σ H1 fun l H2 => th W σ H2 fun u H3 => rSlL c.K x l u H3 Q := by
    funext x H1
    rw [e x]
  show ta W σ H fun x H1 => tl W σ H1 fun l H2 => th W σ H2 fun u H3 => rSlL c.K x l u H3 Q
  rw [← e2]
  exact hw
end

/-! ### built-ins -/
def fLen : List D → Option D
  | [.lst _ xs] => some (.int xs.length)
  | [.tup xs] => some (.int xs.length)
  | [.wl xs] => some (.int xs.length)
  | [.str z] => if fits z.length = true then some (.int z.length) else none
  | _ => none
def rLenA (K : Frag) : List V → Hp → VK → Prop := fun xs H Q => (∃ p ys, xs = [.ref p] ∧ (SqL K H p ys ∨ SqT K H p ys) ∧ Q (.int ys.length) H) ∨ ∃ z, xs = [.str z] ∧ z.length ≤ sizeLine ∧ Q (.int z.length) H
theorem callR_or {X : Cx} {f : Value} {r r' : List V → Hp → VK → Prop} (h : CallR X f r) (h' : CallR X f r') : CallR X f (fun xs H Q => r xs H Q ∨ r' xs H Q) := fun pins s σ H xs us Q I rv z =>
  z.elim (fun y => h pins s σ H xs us Q I rv y) fun y => h' pins s σ H xs us Q I rv y
theorem op_len {K : Frag} : OpV K (rLenA K) fLen := opS fun H L T ds vs d Q r hf q => by
  unfold fLen at hf
  split at hf
  · cases hf
    obtain ⟨v, rfl, r1⟩ := rps1 r
    obtain ⟨p, xs', A, rfl, h1, q1, _⟩ := r1.seqL
    exact .inl ⟨p, xs', rfl, .inl (SqL.of h1), q _ fun _ => ⟨by rw [q1.length], rfl⟩⟩
  · cases hf
    obtain ⟨v, rfl, p, xs', rfl, h1, q1⟩ := rps1 r
    exact .inl ⟨p, xs', rfl, .inr h1, q _ fun _ => ⟨by rw [q1.length], rfl⟩⟩
  · cases hf
    obtain ⟨v, rfl, p, xs', rfl, h1, _, q1⟩ := rps1 r
    exact .inl ⟨p, xs', rfl, .inl h1.sq, q _ fun _ => ⟨by rw [q1.length], rfl⟩⟩
  · split at hf
    · rename_i hz
      cases hf
      obtain ⟨v, rfl, rfl, _⟩ := rps1 r
      exact .inr ⟨_, rfl, fits_line hz, q _ fun _ => ⟨rfl, rfl⟩⟩
    · cases hf
  · cases hf
def fAbs : List D → Option D
  | [.int i] => some (.int (if i < 0 then -i else i))
  | _ => none
theorem op_abs {K : Frag} : OpV K (fun xs H Q => ∃ i, xs = [.int i] ∧ Q (.int (if i < 0 then -i else i)) H) fAbs := opS fun H L T ds vs d Q r hf q => by
  unfold fAbs at hf
  split at hf
  · cases hf
    obtain ⟨v, rfl, rfl, _⟩ := rps1 r
    exact ⟨_, rfl, q _ fun _ => ⟨rfl, rfl⟩⟩
  · cases hf
theorem op_i2v {K : Frag} {g : Int → Int → Int} : OpV K (fun xs H Q => ∃ i j, xs = [.int i, .int j] ∧ Q (.int (g i j)) H) (fI2 g) := opS fun H L T ds vs d Q r hf q => by
  unfold fI2 at hf
  split at hf
  · cases hf
    obtain ⟨v, w, T1, T2, rfl, rfl, ⟨rfl, _⟩, rfl, _⟩ := rps2 r
    exact ⟨_, _, rfl, q _ fun _ => ⟨rfl, rfl⟩⟩
  · cases hf
/-- a list of ints -/
def ints? : List D → Option (List Int)
  | [] => some []
  | .int i :: ds => (ints? ds).map (i :: ·)
  | _ => none
theorem ints_rps {K : Frag} {H : Hp} {L : List Addr} : ∀ {xs : List D} {ns : List Int} {vs : List V} {T : List Addr}, ints? xs = some ns → Rps K H L xs vs T → vs = ns.map V.int ∧ xs = ns.map D.int
  | [], ns, vs, T, h, r => by
    cases h
    exact ⟨r.1, rfl⟩
  | .int i :: ds, ns, vs, T, h, r => by
    obtain ⟨v, vs', T1, T2, rfl, rfl, ⟨rfl, _⟩, r2⟩ := r
    unfold ints? at h
    cases e : ints? ds with
    | none => rw [e] at h; cases h
    | some ms =>
      rw [e] at h
      cases h
      obtain ⟨h1, h2⟩ := ints_rps e r2
      exact ⟨by rw [h1]; rfl, by rw [h2]; rfl⟩
  | .non :: _, _, _, _, h, _ => by cases h
  | .bl _ :: _, _, _, _, h, _ => by cases h
  | .str _ :: _, _, _, _, h, _ => by cases h
  | .lst _ _ :: _, _, _, _, h, _ => by cases h
  | .tup _ :: _, _, _, _, h, _ => by cases h
  | .wl _ :: _, _, _, _, h, _ => by cases h
  | .dK _ _ _ :: _, _, _, _, h, _ => by cases h
  | .dT _ _ _ :: _, _, _, _, h, _ => by cases h
theorem ints_map : ∀ ns : List Int, ints? (ns.map D.int) = some ns
  | [] => rfl
  | n :: ns => by simp [ints?, ints_map ns]
theorem rps_ints {K : Frag} {H : Hp} {L : List Addr} : ∀ ns : List Int, Rps K H L (ns.map D.int) (ns.map V.int) []
  | [] => ⟨rfl, rfl⟩
  | n :: ns => ⟨_, _, [], [], rfl, rfl, ⟨rfl, rfl⟩, rps_ints ns⟩
def maxI : List Int → Int
  | [] => 0
  | [x] => x
  | x :: y :: r => if maxI (y :: r) ≤ x then x else maxI (y :: r)
def minI : List Int → Int
  | [] => 0
  | [x] => x
  | x :: y :: r => if x ≤ minI (y :: r) then x else minI (y :: r)
theorem maxI_spec : ∀ (ns : List Int), ns ≠ [] → maxI ns ∈ ns ∧ ∀ y ∈ ns, y ≤ maxI ns
  | [], h => absurd rfl h
  | [x], _ => ⟨by simp [maxI], by simp [maxI]⟩
  | x :: y :: r, _ => by
    obtain ⟨h1, h2⟩ := maxI_spec (y :: r) (by simp)
    unfold maxI
    split
    · rename_i h
      refine ⟨by simp, fun z hz => ?_⟩
      rcases List.mem_cons.mp hz with rfl | hz
      · exact Int.le_refl _
      · exact Int.le_trans (h2 z hz) h
    · rename_i h
      refine ⟨List.mem_cons_of_mem _ h1, fun z hz => ?_⟩
      rcases List.mem_cons.mp hz with rfl | hz
      · omega
      · exact h2 z hz
theorem minI_spec : ∀ (ns : List Int), ns ≠ [] → minI ns ∈ ns ∧ ∀ y ∈ ns, minI ns ≤ y
  | [], h => absurd rfl h
  | [x], _ => ⟨by simp [minI], by simp [minI]⟩
  | x :: y :: r, _ => by
    obtain ⟨h1, h2⟩ := minI_spec (y :: r) (by simp)
    unfold minI
    split
    · rename_i h
      refine ⟨by simp, fun z hz => ?_⟩
      rcases List.mem_cons.mp hz with rfl | hz
      · exact Int.le_refl _
      · exact Int.le_trans h (h2 z hz)
    · rename_i h
      refine ⟨List.mem_cons_of_mem _ h1, fun z hz => ?_⟩
      rcases List.mem_cons.mp hz with rfl | hz
      · omega
      · exact h2 z hz
def fInts (g : List Int → Option D) : List D → Option D
  | [.lst _ xs] => (ints? xs).bind g
  | _ => none
def gMax (ns : List Int) : Option D := if ns.isEmpty = true then none else some (.int (maxI ns))
def gMin (ns : List Int) : Option D := if ns.isEmpty = true then none else some (.int (minI ns))
def gSum (ns : List Int) : Option D := some (.int ns.sum)
theorem op_maxL {K : Frag} : OpV K (rMax K) (fInts gMax) := opS fun H L T ds vs d Q r hf q => by
  unfold fInts at hf
  split at hf
  · rename_i ob xs
    obtain ⟨v, rfl, r1⟩ := rps1 r
    obtain ⟨p, xs', A, rfl, h1, q1, _⟩ := r1.seqL
    cases e : ints? xs with
    | none => rw [e] at hf; cases hf
    | some ns =>
      rw [e] at hf
      obtain ⟨rfl, _⟩ := ints_rps e q1
      have hf : gMax ns = some d := hf
      unfold gMax at hf
      split at hf
      · cases hf
      · rename_i he
        cases hf
        have hne : ns ≠ [] := fun z => he (by rw [z]; rfl)
        obtain ⟨m1, m2⟩ := maxI_spec ns hne
        refine ⟨p, ns, rfl, SqL.of h1, List.length_pos_iff.mpr hne, fun m hm hle => ?_⟩
        have : m = maxI ns := Int.le_antisymm (m2 m hm) (hle _ m1)
        rw [this]
        exact q _ fun _ => ⟨rfl, rfl⟩
  · cases hf
theorem op_minL {K : Frag} : OpV K (rMin K) (fInts gMin) := opS fun H L T ds vs d Q r hf q => by
  unfold fInts at hf
  split at hf
  · rename_i ob xs
    obtain ⟨v, rfl, r1⟩ := rps1 r
    obtain ⟨p, xs', A, rfl, h1, q1, _⟩ := r1.seqL
    cases e : ints? xs with
    | none => rw [e] at hf; cases hf
    | some ns =>
      rw [e] at hf
      obtain ⟨rfl, _⟩ := ints_rps e q1
      have hf : gMin ns = some d := hf
      unfold gMin at hf
      split at hf
      · cases hf
      · rename_i he
        cases hf
        have hne : ns ≠ [] := fun z => he (by rw [z]; rfl)
        obtain ⟨m1, m2⟩ := minI_spec ns hne
        refine ⟨p, ns, rfl, SqL.of h1, List.length_pos_iff.mpr hne, fun m hm hle => ?_⟩
        have : m = minI ns := Int.le_antisymm (hle _ m1) (m2 m hm)
        rw [this]
        exact q _ fun _ => ⟨rfl, rfl⟩
  · cases hf
def fMax (ds : List D) : Option D := (fI2 (fun i j => if j > i then j else i) ds).or (fInts gMax ds)
def fMin (ds : List D) : Option D := (fI2 (fun i j => if j < i then j else i) ds).or (fInts gMin ds)
def fInt : List D → Option D
  | [.int i] => some (.int i)
  | [.bl k] => some (.int (if k then 1 else 0))
  | _ => none
theorem op_int {K : Frag} : OpV K (fun xs H Q => (∃ i, xs = [.int i] ∧ Q (.int i) H) ∨ ∃ k, xs = [.bl k] ∧ Q (.int (if k then 1 else 0)) H) fInt := opS fun H L T ds vs d Q r hf q => by
  unfold fInt at hf
  split at hf
  · cases hf
    obtain ⟨v, rfl, rfl, _⟩ := rps1 r
    exact .inl ⟨_, rfl, q _ fun _ => ⟨rfl, rfl⟩⟩
  · cases hf
    obtain ⟨v, rfl, rfl, _⟩ := rps1 r
    exact .inr ⟨_, rfl, q _ fun _ => ⟨rfl, rfl⟩⟩
  · cases hf
def fDivmod : List D → Option D
  | [.int i, .int j] => if cDiv i j = true then some (.tup [.int (i / j), .int (i % j)]) else none
  | _ => none
theorem op_divmod {K : Frag} : OpV K (fun xs H Q => ∃ i j, xs = [.int i, .int j] ∧ CDiv i j ∧ ∀ p, H p = none → Q (.ref p) (upd H p (.tup [.int (i / j), .int (i % j)]))) fDivmod := by
  intro H T R ds vs d Q rs nd hR hf q
  unfold fDivmod at hf
  split at hf
  · split at hf
    · rename_i hc
      cases hf
      obtain ⟨v, w, T1, T2, rfl, rfl, ⟨rfl, rfl⟩, rfl, rfl⟩ := rps2 rs
      have hc' := cDiv_ok hc
      refine ⟨_, _, rfl, hc', newT (T' := []) ?_ (by simp) (by simp) nd q⟩
      exact ⟨_, _, [], [], rfl, rfl, ⟨rfl, rfl⟩, _, _, [], [], rfl, rfl, ⟨rfl, rfl⟩, rfl, rfl⟩
    · cases hf
  · cases hf
/-- sorting ints -/
def insI (x : Int) : List Int → List Int
  | [] => [x]
  | y :: r => if x ≤ y then x :: y :: r else y :: insI x r
def sortI : List Int → List Int
  | [] => []
  | x :: r => insI x (sortI r)
theorem insI_perm (x : Int) : ∀ l : List Int, (insI x l).Perm (x :: l)
  | [] => .refl _
  | y :: r => by
    unfold insI
    split
    · exact .refl _
    · exact (List.Perm.cons y (insI_perm x r)).trans (List.Perm.swap x y r)
theorem sortI_perm : ∀ l : List Int, (sortI l).Perm l
  | [] => .refl _
  | x :: r => (insI_perm x _).trans (List.Perm.cons x (sortI_perm r))
theorem insI_sorted (x : Int) : ∀ l : List Int, l.Pairwise (· ≤ ·) → (insI x l).Pairwise (· ≤ ·)
  | [], _ => by simp [insI]
  | y :: r, h => by
    unfold insI
    split
    · rename_i hxy
      refine List.pairwise_cons.mpr ⟨fun z hz => ?_, h⟩
      rcases List.mem_cons.mp hz with rfl | hz
      · exact hxy
      · exact Int.le_trans hxy ((List.pairwise_cons.mp h).1 z hz)
    · rename_i hxy
      refine List.pairwise_cons.mpr ⟨fun z hz => ?_, insI_sorted x r (List.pairwise_cons.mp h).2⟩
      rcases List.mem_cons.mp ((insI_perm x r).subset hz) with rfl | hz
      · omega
      · exact (List.pairwise_cons.mp h).1 z hz
theorem sortI_sorted : ∀ l : List Int, (sortI l).Pairwise (· ≤ ·)
  | [] => by simp [sortI]
  | x :: r => insI_sorted x _ (sortI_sorted r)
theorem sorted_uniq {l m : List Int} (hp : l.Perm m) (hl : l.Pairwise (· ≤ ·)) (hm : m.Pairwise (· ≤ ·)) : l = m :=
  List.Perm.eq_of_pairwise (le := (· ≤ ·)) (fun a b _ _ h1 h2 => Int.le_antisymm h1 h2) hl hm hp
def gSort (ns : List Int) : Option D := if fits ns.length = true then some (.lst true ((sortI ns).map D.int)) else none
end VL
/-! VL 11: calls of built-ins, methods, stores -/
namespace VL
open PySem PySem.Spec L2

theorem op_sortL {K : Frag} : OpV K (rSortedI K) (fInts gSort) := by
  intro H T R ds vs d Q rs nd hR hf q
  unfold fInts at hf
  split at hf
  · rename_i ob xs
    obtain ⟨v, rfl, r1⟩ := rps1 rs
    obtain ⟨p, xs', A, rfl, h1, q1, _⟩ := r1.seqL
    cases e : ints? xs with
    | none => rw [e] at hf; cases hf
    | some ns =>
      rw [e] at hf
      obtain ⟨rfl, _⟩ := ints_rps e q1
      have hf : gSort ns = some d := hf
      unfold gSort at hf
      split at hf
      · cases hf
        refine ⟨p, ns, rfl, SqL.of h1, fun ns' u hp hs hu => ?_⟩
        have : ns' = sortI ns := sorted_uniq (hp.trans (sortI_perm ns).symm) hs (sortI_sorted ns)
        rw [this]
        exact newL (T' := []) (rps_ints _) (by simp) (by simp) nd hR q u hu
      · cases hf
  · cases hf
def fList : List D → Option D
  | [.lst _ xs] => some (.lst true xs)
  | [.tup xs] => if noOwns xs = true then some (.lst true xs) else none
  | [.wl xs] => if noOwns xs = true then some (.lst true xs) else none
  | _ => none
theorem op_list {K : Frag} : OpV K (fun xs H Q => ∃ p ys, xs = [.ref p] ∧ (SqL K H p ys ∨ SqT K H p ys) ∧ ∀ l, H l = none → Q (.ref l) (upd H l (.lst ys))) fList := by
  intro H T R ds vs d Q rs nd hR hf q
  have ndT := (List.nodup_append.mp nd).1
  unfold fList at hf
  split at hf
  · cases hf
    obtain ⟨v, rfl, r1⟩ := rps1 rs
    obtain ⟨p, xs', A, rfl, h1, q1, s1⟩ := r1.seqL
    exact ⟨p, xs', rfl, .inl (SqL.of h1), newL q1 (fun a h => s1.subset h) (s1.nodup ndT) nd hR q⟩
  · split at hf
    · rename_i hn
      cases hf
      obtain ⟨v, rfl, p, xs', rfl, h1, q1⟩ := rps1 rs
      have e := q1.free hn
      subst e
      exact ⟨p, xs', rfl, .inr h1, newL q1 (by simp) (by simp) nd hR q⟩
    · cases hf
  · split at hf
    · rename_i hn
      cases hf
      obtain ⟨v, rfl, p, xs', rfl, h1, rfl, q1⟩ := rps1 rs
      exact ⟨p, xs', rfl, .inl h1.sq, newL q1 (by simp) (by simp) nd hR q⟩
    · cases hf
  · cases hf
def fTuple : List D → Option D
  | [.lst _ xs] => some (.tup xs)
  | [.tup xs] => if noOwns xs = true then some (.tup xs) else none
  | _ => none
theorem op_tuple {K : Frag} : OpV K (fun xs H Q => ∃ p ys, xs = [.ref p] ∧ ((SqL K H p ys ∧ ∀ l, H l = none → Q (.ref l) (upd H l (.tup ys))) ∨ (SqT K H p ys ∧ Q (.ref p) H))) fTuple := by
  intro H T R ds vs d Q rs nd hR hf q
  have ndT := (List.nodup_append.mp nd).1
  unfold fTuple at hf
  split at hf
  · cases hf
    obtain ⟨v, rfl, r1⟩ := rps1 rs
    obtain ⟨p, xs', A, rfl, h1, q1, s1⟩ := r1.seqL
    exact ⟨p, xs', rfl, .inl ⟨SqL.of h1, newT q1 (fun a h => s1.subset h) (s1.nodup ndT) nd q⟩⟩
  · split at hf
    · rename_i hn
      cases hf
      obtain ⟨v, rfl, p, xs', rfl, h1, q1⟩ := rps1 rs
      have e := q1.free hn
      subst e
      exact ⟨p, xs', rfl, .inr ⟨h1, q (.ref p) H [] ⟨p, xs', rfl, h1, q1⟩ nd (fun _ _ h => h) (by simp)⟩⟩
    · cases hf
  · cases hf
/-! repr -/
def showD (d : D) : Str := (py d).shown
def rRepr (K : Frag) : List V → Hp → VK → Prop := fun xs H Q => ∃ x d, xs = [x] ∧ Dp K H x d ∧ d.showable = true ∧ d.hasDict = false ∧ d.depth ≤ 60 ∧ d.shown.length ≤ sizeLine ∧ Q (.str d.shown) H
theorem call_reprD {X : Cx} (hg : X.A.guards = some []) (hu : X.A.units + 64 < cLine) : CallR X (.builtin "repr") (rRepr X.K) := fun pins s σ H xs us Q I rv h => by
  obtain ⟨x, d, rfl, hd, hs, hn, hdep, hz, q⟩ := h
  obtain ⟨u, rfl, ru⟩ := vals1 rv
  obtain ⟨as, rd⟩ := Dp.reads I d x u hd ru
  have fin : ∀ t tk, EP X pins σ Q (.str d.shown t) { s with toks := tk } := fun t tk => ⟨.str d.shown, H, I.tok _, ⟨t, rfl⟩, q⟩
  cases hd with
  | non => cases ru; exact PySem.P.repr_of_none (fin _ _)
  | bl b => cases ru; exact PySem.P.repr_of_bool (fin _ _)
  | int i =>
    obtain ⟨t, rfl⟩ := ru
    exact PySem.P.repr_of_int (of_decide_eq_true hs) (fin _ _)
  | str z =>
    obtain ⟨t, rfl⟩ := ru
    exact PySem.P.repr_of_str (fin _ _) hz
  | lst h1 h2 =>
    cases ru
    exact repr_of_reads' rd hs (PyData.noDict_hsm hn) hg (by omega) (fun _ _ e => e) (fun h' t tk hk => ⟨.str _, H, I.kept hk, ⟨t, rfl⟩, q⟩) hz
  | tup h1 h2 =>
    cases ru
    exact repr_of_reads' rd hs (PyData.noDict_hsm hn) hg (by omega) (fun _ _ e => e) (fun h' t tk hk => ⟨.str _, H, I.kept hk, ⟨t, rfl⟩, q⟩) hz
end VL
/-! VL 12: calls of built-ins, wrapped -/
namespace VL
open PySem PySem.Spec L2
variable {c : Ctx} {J : List (Nat × V)} {a b : Expr} {p pos : Pos} {ma mb : M Val}
theorem bi_len : bootBuiltins "len" = some (.builtin "len") := by decide +kernel
theorem bi_abs : bootBuiltins "abs" = some (.builtin "abs") := by decide +kernel
theorem bi_max : bootBuiltins "max" = some (.builtin "max") := by decide +kernel
theorem bi_min : bootBuiltins "min" = some (.builtin "min") := by decide +kernel
theorem bi_sum : bootBuiltins "sum" = some (.builtin "sum") := by decide +kernel
theorem bi_divmod : bootBuiltins "divmod" = some (.builtin "divmod") := by decide +kernel
theorem bi_sorted : bootBuiltins "sorted" = some (.builtin "sorted") := by decide +kernel
theorem bi_repr : bootBuiltins "repr" = some (.builtin "repr") := by decide +kernel
theorem bi_isi : bootBuiltins "isinstance" = some (.builtin "isinstance") := by decide +kernel
theorem bi_int : bootBuiltins "int" = some (.type "int") := by decide +kernel
theorem bi_list : bootBuiltins "list" = some (.type "list") := by decide +kernel
theorem bi_tuple : bootBuiltins "tuple" = some (.type "tuple") := by decide +kernel
theorem bi_bool : bootBuiltins "bool" = some (.type "bool") := by decide +kernel
theorem bi_str : bootBuiltins "str" = some (.type "str") := by decide +kernel
theorem bi_dict : bootBuiltins "dict" = some (.type "dict") := by decide +kernel
theorem bi_float : bootBuiltins "float" = some (.type "float") := by decide +kernel
theorem se_len (hg : c.scope.names.lookup ("len" : Str) = some .globalImplicit) (hm : c.mg "len" = none) (ha : SE c J a ma) (he : ∀ env : Env, starEach [a] env = (false, eval a env) :: starEach [] env := by intro _; rfl) : SE c J (.Call (.Name "len" p) [a] [] pos) (e1 ma fLen) :=
  se_callB (r := rLenA c.K) (fun X hX => by rw [← hX.K]; exact callR_or call_len_seq call_len_str) op_len hg hm bi_len (sa_cons ha sa_nil he) (he := he)
theorem se_abs (hg : c.scope.names.lookup ("abs" : Str) = some .globalImplicit) (hm : c.mg "abs" = none) (ha : SE c J a ma) (he : ∀ env : Env, starEach [a] env = (false, eval a env) :: starEach [] env := by intro _; rfl) : SE c J (.Call (.Name "abs" p) [a] [] pos) (e1 ma fAbs) :=
  se_callB (fun X hX => call_abs) op_abs hg hm bi_abs (sa_cons ha sa_nil he) (he := he)
theorem op_maxA {K : Frag} : OpV K (fun xs H Q => (∃ i j, xs = [.int i, .int j] ∧ Q (.int (if j > i then j else i)) H) ∨ rMax K xs H Q) fMax := op_i2v.or op_maxL
theorem op_minA {K : Frag} : OpV K (fun xs H Q => (∃ i j, xs = [.int i, .int j] ∧ Q (.int (if j < i then j else i)) H) ∨ rMin K xs H Q) fMin := op_i2v.or op_minL
theorem se_max {e : Expr} {es : List Expr} {m : M (Bool × List D)} (hc : c.calm = true) (hg : c.scope.names.lookup ("max" : Str) = some .globalImplicit) (hm : c.mg "max" = none) (ha : SA c J (e :: es) m) (he : ∀ env : Env, starEach (e :: es) env = (false, eval e env) :: starEach es env := by intro _; rfl) (hpl : ∀ env : Env, (backTo pos (starEach es env)).any (·.1) = false := by intro _; rfl) :
    SE c J (.Call (.Name "max" p) (e :: es) [] pos) (eOp m fMax) :=
  se_callB (fun X hX => by rw [← hX.K]; exact callR_or (call_max2 (by rw [hX.calm]; exact hc)) (cr_max (by rw [hX.calm]; exact hc))) op_maxA hg hm bi_max ha (he := he) (hpl := hpl)
theorem se_min {e : Expr} {es : List Expr} {m : M (Bool × List D)} (hc : c.calm = true) (hg : c.scope.names.lookup ("min" : Str) = some .globalImplicit) (hm : c.mg "min" = none) (ha : SA c J (e :: es) m) (he : ∀ env : Env, starEach (e :: es) env = (false, eval e env) :: starEach es env := by intro _; rfl) (hpl : ∀ env : Env, (backTo pos (starEach es env)).any (·.1) = false := by intro _; rfl) :
    SE c J (.Call (.Name "min" p) (e :: es) [] pos) (eOp m fMin) :=
  se_callB (fun X hX => by rw [← hX.K]; exact callR_or (call_min2 (by rw [hX.calm]; exact hc)) (cr_min (by rw [hX.calm]; exact hc))) op_minA hg hm bi_min ha (he := he) (hpl := hpl)
theorem op_sumL {K : Frag} : OpV K (rSum K) (fInts gSum) := opS fun H L T ds vs d Q r hf q => by
  unfold fInts at hf
  split at hf
  · rename_i ob xs
    obtain ⟨v, rfl, r1⟩ := rps1 r
    obtain ⟨p, xs', A, rfl, h1, q1, _⟩ := r1.seqL
    cases e : ints? xs with
    | none => rw [e] at hf; cases hf
    | some ns =>
      rw [e] at hf
      obtain ⟨rfl, _⟩ := ints_rps e q1
      cases hf
      exact ⟨p, ns, rfl, SqL.of h1, q _ fun _ => ⟨rfl, rfl⟩⟩
  · cases hf
theorem se_sum (hc : c.calm = true) (hg : c.scope.names.lookup ("sum" : Str) = some .globalImplicit) (hm : c.mg "sum" = none) (ha : SE c J a ma) (he : ∀ env : Env, starEach [a] env = (false, eval a env) :: starEach [] env := by intro _; rfl) : SE c J (.Call (.Name "sum" p) [a] [] pos) (e1 ma (fInts gSum)) :=
  se_callB (fun X hX => by rw [← hX.K]; exact cr_sum (by rw [hX.calm]; exact hc)) op_sumL hg hm bi_sum (sa_cons ha sa_nil he) (he := he)
theorem se_divmod (hg : c.scope.names.lookup ("divmod" : Str) = some .globalImplicit) (hm : c.mg "divmod" = none) (ha : SE c J a ma) (hb : SE c J b mb) (he : ∀ env : Env, starEach [a, b] env = (false, eval a env) :: starEach [b] env := by intro _; rfl) (hb' : ∀ env : Env, starEach [b] env = (false, eval b env) :: starEach [] env := by intro _; rfl)
    (hpl : ∀ env : Env, (backTo pos (starEach [b] env)).any (·.1) = false := by intro _; rfl) : SE c J (.Call (.Name "divmod" p) [a, b] [] pos) (e2 ma mb fDivmod) :=
  se_callB (fun X hX => call_divmod) op_divmod hg hm bi_divmod (sa_cons ha (sa_cons hb sa_nil hb') he) (he := he) (hpl := hpl)
theorem se_sorted (hg : c.scope.names.lookup ("sorted" : Str) = some .globalImplicit) (hm : c.mg "sorted" = none) (ha : SE c J a ma) (he : ∀ env : Env, starEach [a] env = (false, eval a env) :: starEach [] env := by intro _; rfl) : SE c J (.Call (.Name "sorted" p) [a] [] pos) (e1 ma (fInts gSort)) :=
  se_callB (fun X hX => by rw [← hX.K]; exact cr_sortedI) op_sortL hg hm bi_sorted (sa_cons ha sa_nil he) (he := he)
theorem se_toInt (hg : c.scope.names.lookup ("int" : Str) = some .globalImplicit) (hm : c.mg "int" = none) (ha : SE c J a ma) (he : ∀ env : Env, starEach [a] env = (false, eval a env) :: starEach [] env := by intro _; rfl) : SE c J (.Call (.Name "int" p) [a] [] pos) (e1 ma fInt) :=
  se_callTy (fun X hX => call_int1) op_int hg hm bi_int (sa_cons ha sa_nil he) (he := he)
theorem se_list (hg : c.scope.names.lookup ("list" : Str) = some .globalImplicit) (hm : c.mg "list" = none) (ha : SE c J a ma) (he : ∀ env : Env, starEach [a] env = (false, eval a env) :: starEach [] env := by intro _; rfl) : SE c J (.Call (.Name "list" p) [a] [] pos) (e1 ma fList) :=
  se_callTy (fun X hX => by rw [← hX.K]; exact call_list_of) op_list hg hm bi_list (sa_cons ha sa_nil he) (he := he)
theorem se_tuple (hg : c.scope.names.lookup ("tuple" : Str) = some .globalImplicit) (hm : c.mg "tuple" = none) (ha : SE c J a ma) (he : ∀ env : Env, starEach [a] env = (false, eval a env) :: starEach [] env := by intro _; rfl) : SE c J (.Call (.Name "tuple" p) [a] [] pos) (e1 ma fTuple) :=
  se_callTy (fun X hX => by rw [← hX.K]; exact call_tuple_of) op_tuple hg hm bi_tuple (sa_cons ha sa_nil he) (he := he)
/-! list(range(..)) -/
def gRg (a b : Int) : List D := (List.range (b - a).toNat).map fun i => D.int (a + (i : Nat))
theorem rps_rg {K : Frag} {H : Hp} {L : List Addr} (a b : Int) : Rps K H L (gRg a b) (rgV a b) [] := by
  have := rps_ints (K := K) (H := H) (L := L) ((List.range (b - a).toNat).map fun i => a + ((i : Nat) : Int))
  simpa [gRg, rgV, List.map_map, Function.comp_def] using this
def rgOk (a b : Int) : Bool := i62 a && (i62 b && ltI (b - a) 16777217)
theorem rgOk_of {a b : Int} (h : rgOk a b = true) : RgOk a b := by
  unfold rgOk at h
  obtain ⟨h1, h⟩ := Bool.and_eq_true_iff.mp h
  obtain ⟨h2, h3⟩ := Bool.and_eq_true_iff.mp h
  rw [ltI_eq] at h3
  have h1 := i62_ok h1
  have h2 := i62_ok h2
  have h3 := of_decide_eq_true h3
  unfold RgOk
  omega
def fRg : List D → Option D
  | [.int b] => if rgOk 0 b = true then some (.lst true (gRg 0 b)) else none
  | [.int a, .int b] => if rgOk a b = true then some (.lst true (gRg a b)) else none
  | _ => none
def rRg : List V → Hp → VK → Prop := fun xs H Q => match xs with
  | [x] => ∃ n, x = .int n ∧ RgOk 0 n ∧ ∀ q, H q = none → Q (.ref q) (upd H q (.lst (rgV 0 n)))
  | [x, y] => ∃ i j, x = .int i ∧ y = .int j ∧ RgOk i j ∧ ∀ q, H q = none → Q (.ref q) (upd H q (.lst (rgV i j)))
  | _ => False
theorem op_rg {K : Frag} : OpV K rRg fRg := by
  intro H T R ds vs d Q rs nd hR hf q
  unfold fRg at hf
  split at hf
  · split at hf
    · rename_i hc
      cases hf
      obtain ⟨v, rfl, rfl, rfl⟩ := rps1 rs
      exact ⟨_, rfl, rgOk_of hc, newL (T' := []) (rps_rg _ _) (by simp) (by simp) nd hR q⟩
    · cases hf
  · split at hf
    · rename_i hc
      cases hf
      obtain ⟨v, w, T1, T2, rfl, rfl, ⟨rfl, rfl⟩, rfl, rfl⟩ := rps2 rs
      exact ⟨_, _, rfl, rfl, rgOk_of hc, newL (T' := []) (rps_rg _ _) (by simp) (by simp) nd hR q⟩
    · cases hf
  · cases hf
theorem se_listRg1 {q2 pos2 : Pos} (hc : c.calm = true) (hg : c.scope.names.lookup ("list" : Str) = some .globalImplicit) (hm : c.mg "list" = none) (hg2 : c.scope.names.lookup ("range" : Str) = some .globalImplicit) (hm2 : c.mg "range" = none) (ha : SE c J a ma)
    (he : ∀ env : Env, starEach [a] env = (false, eval a env) :: starEach [] env := by intro _; rfl) : SE c J (.Call (.Name "list" p) [.Call (.Name "range" q2) [a] [] pos2] [] pos) (e1 ma fRg) := by
  obtain ⟨ta, pa, qa⟩ := ha
  refine ⟨fun W => tLstRg (tRg1 (ta W)), fun W X hX tk => pe_listRg (by rw [hX.calm]; exact hc) (hX.gl hg) (by rw [hX.mg]; exact hm) (prg_1 (hX.gl hg2) (by rw [hX.mg]; exact hm2) (pa W X hX tk) (he _)), ?_⟩
  intro W s σ H O F Q o k
  have h := snd_op (snd_cons qa snd_nil) (op_rg (K := c.K)) W s σ H O F Q o k
  have e : (fun (x : V) (H1 : Hp) => ∃ n, x = .int n ∧ RgOk 0 n ∧ ∀ q, H1 q = none → Q (.ref q) (upd H1 q (.lst (rgV 0 n)))) = fun x H1 => rRg [x] H1 Q := rfl
  exact h
theorem se_listRg2 {q2 pos2 : Pos} (hc : c.calm = true) (hg : c.scope.names.lookup ("list" : Str) = some .globalImplicit) (hm : c.mg "list" = none) (hg2 : c.scope.names.lookup ("range" : Str) = some .globalImplicit) (hm2 : c.mg "range" = none) (ha : SE c J a ma) (hb : SE c J b mb)
    (he : ∀ env : Env, starEach [a, b] env = (false, eval a env) :: starEach [b] env := by intro _; rfl) (hb' : ∀ env : Env, starEach [b] env = (false, eval b env) :: starEach [] env := by intro _; rfl) (hpl : ∀ env : Env, (backTo pos2 (starEach [b] env)).any (·.1) = false := by intro _; rfl) :
    SE c J (.Call (.Name "list" p) [.Call (.Name "range" q2) [a, b] [] pos2] [] pos) (e2 ma mb fRg) := by
  obtain ⟨ta, pa, qa⟩ := ha
  obtain ⟨tb, pb, qb⟩ := hb
  refine ⟨fun W => tLstRg (tRg2 (ta W) (tb W)), fun W X hX tk => pe_listRg (by rw [hX.calm]; exact hc) (hX.gl hg) (by rw [hX.mg]; exact hm) (prg_2 (hX.gl hg2) (by rw [hX.mg]; exact hm2) (pa W X hX tk) (pb W X hX tk) (he _) (hb' _) (hpl _)), ?_⟩
  intro W s σ H O F Q o k
  have h := snd_op (snd_cons qa (snd_cons qb snd_nil)) (op_rg (K := c.K)) W s σ H O F Q o k
  have e : (fun (x : V) (H1 : Hp) => tb W σ H1 fun y H2 => ∃ i j, x = .int i ∧ y = .int j ∧ (RgOk i j ∧ ∀ q, H2 q = none → Q (.ref q) (upd H2 q (.lst (rgV i j))))) = fun x H1 => tb W σ H1 fun y H2 => ∃ i j, x = .int i ∧ y = .int j ∧ RgOk i j ∧ ∀ q, H2 q = none → Q (.ref q) (upd H2 q (.lst (rgV i j))) := rfl
  exact h
/-! repr -/
def reOk (d : D) : Bool := okD 60 d && (py d).showable && !(py d).hasDict && decide (((py d).shown.length : Int) ≤ (sizeLine : Nat))
def fRepr : List D → Option D
  | [d] => if reOk d = true then some (.str (showD d)) else none
  | _ => none
theorem op_repr {K : Frag} : OpV K (rRepr K) fRepr := opS fun H L T ds vs d Q r hf q => by
  unfold fRepr at hf
  split at hf
  · rename_i x
    split at hf
    · rename_i hx
      cases hf
      unfold reOk at hx
      simp only [Bool.and_eq_true, Bool.not_eq_true', decide_eq_true_eq] at hx
      obtain ⟨⟨⟨h1, h2⟩, h3⟩, h4⟩ := hx
      have h4 := Int.ofNat_le.mp h4
      obtain ⟨v, rfl, r1⟩ := rps1 r
      exact ⟨v, py x, rfl, dp_of 60 x v _ h1 r1, h2, h3, (okD_lay 60 x h1).2, h4, q _ fun _ => ⟨rfl, rfl⟩⟩
    · cases hf
  · cases hf
theorem se_repr (hg : c.scope.names.lookup ("repr" : Str) = some .globalImplicit) (hm : c.mg "repr" = none) (ha : SE c J a ma) (he : ∀ env : Env, starEach [a] env = (false, eval a env) :: starEach [] env := by intro _; rfl) : SE c J (.Call (.Name "repr" p) [a] [] pos) (e1 ma fRepr) :=
  se_callB (fun X hX => by rw [← hX.K]; exact call_reprD hX.gd hX.u64) op_repr hg hm bi_repr (sa_cons ha sa_nil he) (he := he)
/-! isinstance -/
def tyD : D → String
  | .non => "NoneType"
  | .bl _ => "bool"
  | .int _ => "int"
  | .str _ => "str"
  | .lst _ _ => "list"
  | .wl _ => "list"
  | .tup _ => "tuple"
  | .dK _ _ _ => "dict"
  | .dT _ _ _ => "dict"
theorem tyX_of {K : Frag} {H : Hp} {L T : List Addr} {d : D} {v : V} (r : Rp K H L d v T) : TyX K H v (.type (tyD d)) := by
  cases d with
  | non => obtain ⟨rfl, _⟩ := r; exact .base .non
  | bl x => obtain ⟨rfl, _⟩ := r; exact .base (.bl _)
  | int x => obtain ⟨rfl, _⟩ := r; exact .base (.int _)
  | str x => obtain ⟨rfl, _⟩ := r; exact .base (.str _)
  | lst o xs =>
    obtain ⟨p, xs', A, rfl, h1, q1, _⟩ := r.seqL
    exact .base (.lst h1)
  | tup xs =>
    obtain ⟨p, xs', rfl, h1, q1⟩ := r
    rcases h1 with (h | ⟨o, h⟩) | ⟨o, us, n, hk, hc, _⟩
    · exact .base (.tup h)
    · exact .fTuple h
    · exact .kTuple hk hc
  | wl xs =>
    obtain ⟨p, xs', rfl, h1, _⟩ := r
    rcases h1 with ⟨o, h⟩ | ⟨o, us, n, hk, hc, _⟩
    · exact .base (.frz h)
    · exact .kList hk hc
  | dK o ks ds =>
    cases o with
    | true => obtain ⟨p, vs, T', rfl, _, h, _⟩ := r; exact .base (.dK h)
    | false => obtain ⟨p, vs, rfl, _, h, _⟩ := r; exact .base (.dK h)
  | dT o ks ds =>
    cases o with
    | true => obtain ⟨p, vs, T', rfl, _, h, _⟩ := r; exact .base (.dT h)
    | false => obtain ⟨p, vs, rfl, _, h, _⟩ := r; exact .base (.dT h)
def fIsi (T : String) : List D → Option D
  | [d] => (kitB (tyD d) T).map D.bl
  | _ => none
theorem op_isi {K : Frag} {T : String} : OpV K (r1V fun x H Q => rIsi K [x, .ty T] H Q) (fIsi T) := opS fun H L Tt ds vs d Q r hf q => by
  unfold fIsi at hf
  split at hf
  · rename_i x
    obtain ⟨v, rfl, r1⟩ := rps1 r
    cases e : kitB (tyD x) T with
    | none => rw [e] at hf; cases hf
    | some bb =>
      rw [e] at hf
      cases hf
      exact ⟨v, .ty T, _, _, bb, rfl, .ty T, tyX_of r1, kit_ty e, q _ fun _ => ⟨rfl, rfl⟩⟩
  · cases hf
theorem se_isi (T : String) {x : Str} {q2 : Pos} (hg : c.scope.names.lookup ("isinstance" : Str) = some .globalImplicit) (hm : c.mg "isinstance" = none) (hg2 : c.scope.names.lookup x = some .globalImplicit) (hm2 : c.mg x = none) (hv : bootBuiltins x = some (.type T)) (ha : SE c J a ma)
    (he : ∀ env : Env, starEach [a, .Name x q2] env = (false, eval a env) :: starEach [.Name x q2] env := by intro _; rfl) (hn : x ≠ "__name__" := by decide) (hd : (x == ("__debug__" : Str)) = false := by decide) : SE c J (.Call (.Name "isinstance" p) [a, .Name x q2] [] pos) (e1 ma (fIsi T)) := by
  obtain ⟨ta, pa, qa⟩ := ha
  refine ⟨fun W => tCB (rIsi c.K) (tCons (ta W) (tCons (tC (.ty T)) tNil)), fun W X hX tk => by
    rw [← hX.K]
    exact pe_callB call_isi (by show X.env.scope.names.lookup _ = _; rw [hX.scope]; exact hg) (by rw [hX.mg]; exact hm) bi_isi (pa_cons (pa W X hX tk) (pa_cons (pe_bltn (hX.gl hg2) (by rw [hX.mg]; exact hm2) hv rfl hn hd) pa_nil rfl) (he _)) (by decide) (by decide) (he _) rfl, ?_⟩
  intro W s σ H O F Q o k
  exact snd_op (snd_cons qa snd_nil) (op_isi (K := c.K) (T := T)) W s σ H O F Q o k
end VL
/-! VL 13: places and what changes them -/
namespace VL
open PySem PySem.Spec L2
/-! ### paths into a slot's own lists -/
def Walk (H : Hp) : V → List Nat → V → Prop
  | u, [], x => x = u
  | u, k :: ks, x => ∃ a vs y, u = .ref a ∧ H a = some (.lst vs) ∧ vs[k]? = some y ∧ Walk H y ks x
def getP : D → List Nat → Option D
  | d, [] => some d
  | .lst true xs, k :: ks => (xs[k]?).bind fun d => getP d ks
  | _, _ :: _ => none
def setP : D → List Nat → D → D
  | _, [], z => z
  | .lst true xs, k :: ks, z => (match xs[k]? with
    | some d => .lst true (xs.set k (setP d ks z))
    | none => .lst true xs)
  | d, _ :: _, _ => d
theorem Walk.fn {H : Hp} : ∀ {ks : List Nat} {u x y : V}, Walk H u ks x → Walk H u ks y → x = y
  | [], u, x, y, h, k => h.trans k.symm
  | j :: ks, u, x, y, h, k => by
    obtain ⟨a, vs, w, rfl, h1, h2, h3⟩ := h
    obtain ⟨a', vs', w', e, k1, k2, k3⟩ := k
    cases e
    rw [h1] at k1
    cases k1
    rw [h2] at k2
    cases k2
    exact h3.fn k3
theorem Walk.ext {H H' : Hp} (ext : ∀ a u, H a = some u → H' a = some u) : ∀ {ks : List Nat} {u x : V}, Walk H u ks x → Walk H' u ks x
  | [], _, _, h => h
  | _ :: _, _, _, h => by
    obtain ⟨a, vs, w, rfl, h1, h2, h3⟩ := h
    exact ⟨a, vs, w, rfl, ext _ _ h1, h2, h3.ext ext⟩
theorem Walk.snoc {H : Hp} {j : Nat} {z : V} : ∀ {ks : List Nat} {u x : V}, Walk H u ks x → (∃ a vs, x = .ref a ∧ H a = some (.lst vs) ∧ vs[j]? = some z) → Walk H u (ks ++ [j]) z
  | [], u, x, h, ⟨a, vs, h1, h2, h3⟩ => by
    cases h
    exact ⟨a, vs, z, h1, h2, h3, rfl⟩
  | _ :: _, _, _, h, g => by
    obtain ⟨a, vs, w, rfl, h1, h2, h3⟩ := h
    exact ⟨a, vs, w, rfl, h1, h2, h3.snoc g⟩
theorem Rps.swapT {K : Frag} {H : Hp} {L : List Addr} : ∀ {ds : List D} {vs : List V} {T : List Addr} {i : Nat} {d : D}, Rps K H L ds vs T → ds[i]? = some d →
    ∃ v T1 T2, vs[i]? = some v ∧ Rp K H L d v T1 ∧ T.Perm (T1 ++ T2) ∧ ∀ {H' : Hp} {L' : List Addr} {e : D} {U : List Addr}, (∀ d u T, (∀ a ∈ T, a ∈ T2) → Rp K H L d u T → Rp K H' L' d u T) → Rp K H' L' e v U → ∃ T3, T3.Perm (U ++ T2) ∧ Rps K H' L' (ds.set i e) vs T3
  | [], _, _, _, _, _, e => by simp at e
  | d0 :: ds, _, _, 0, d, r, e => by
    obtain ⟨v, vs', T1, T2, rfl, rfl, e3, e4⟩ := r
    have : d0 = d := by simpa using e
    subst this
    refine ⟨v, T1, T2, rfl, e3, .refl _, fun {H' L' e U} tr q => ⟨U ++ T2, .refl _, ⟨v, vs', U, T2, rfl, rfl, q, ?_⟩⟩⟩
    have : ∀ {ds : List D} {vs : List V} {T : List Addr}, (∀ a ∈ T, a ∈ T2) → Rps K H L ds vs T → Rps K H' L' ds vs T := by
      intro ds
      induction ds with
      | nil => intro vs T _ r; exact r
      | cons d ds ih =>
        intro vs T hT r
        obtain ⟨v, vs', A, B, rfl, rfl, e3, e4⟩ := r
        exact ⟨v, vs', A, B, rfl, rfl, tr _ _ _ (fun a h => hT a (List.mem_append_left _ h)) e3, ih (fun a h => hT a (List.mem_append_right _ h)) e4⟩
    exact this (fun _ h => h) e4
  | d0 :: _, _, _, i + 1, d, r, e => by
    obtain ⟨v, vs', T1, T2, rfl, rfl, e3, e4⟩ := r
    obtain ⟨w, A, B, h1, h2, h3, h4⟩ := Rps.swapT (i := i) (d := d) e4 (by simpa using e)
    refine ⟨w, A, T1 ++ B, by simpa using h1, h2, (List.Perm.append_left T1 h3).trans perm_mid, fun {H' L' e U} tr q => ?_⟩
    obtain ⟨T3, p, q'⟩ := h4 (fun d u T h => tr d u T fun a m => List.mem_append_right _ (h a m)) q
    exact ⟨T1 ++ T3, (List.Perm.append_left T1 p).trans perm_mid, ⟨v, _, T1, T3, rfl, rfl, tr _ _ _ (fun a m => List.mem_append_left _ m) e3, q'⟩⟩
theorem path_rp {K : Frag} {H : Hp} {L : List Addr} : ∀ {ks : List Nat} {d z : D} {u : V} {A : List Addr}, Rp K H L d u A → A.Nodup → getP d ks = some z →
    ∃ x A1 A2, Walk H u ks x ∧ Rp K H L z x A1 ∧ A.Perm (A1 ++ A2) ∧ ∀ {H' : Hp} {L' : List Addr} {z' : D} {U : List Addr}, (∀ a ∈ A2, H' a = H a) →
      (∀ d u T, (∀ a ∈ T, a ∈ A2) → Rp K H L d u T → Rp K H' L' d u T) → Rp K H' L' z' x U → ∃ A', A'.Perm (U ++ A2) ∧ Rp K H' L' (setP d ks z') u A'
  | [], d, z, u, A, r, nd, e => by
    cases e
    refine ⟨u, A, [], rfl, r, by simp, fun {H' L' z' U} _ _ q => ⟨U, by simp, q⟩⟩
  | k :: ks, d, z, u, A, r, nd, e => by
    cases d with
    | lst o xs =>
      cases o with
      | false => cases e
      | true =>
        obtain ⟨a, vs, T', rfl, h1, rfl, h2⟩ := r
        have e : (xs[k]?).bind (fun d => getP d ks) = some z := e
        cases hk : xs[k]? with
        | none => rw [hk] at e; cases e
        | some d1 =>
          rw [hk] at e
          obtain ⟨w, T1, T2, g1, g2, g3, g4⟩ := h2.swapT hk
          have ndT := (List.nodup_cons.mp nd)
          have ndT2 := g3.nodup_iff.mp ndT.2
          obtain ⟨x, A1, A2, w1, w2, w3, w4⟩ := path_rp g2 (List.nodup_append.mp ndT2).1 e
          refine ⟨x, A1, a :: (A2 ++ T2), ⟨a, vs, w, rfl, h1, g1, w1⟩, w2, ?_, fun {H' L' z' U} same tr q => ?_⟩
          · refine ((g3.trans (w3.append_right T2)).cons a).trans ?_
            rw [List.append_assoc]
            exact List.perm_middle.symm
          · obtain ⟨A', p1, r1⟩ := w4 (fun b hb => same b (by simp [hb])) (fun d u T h => tr d u T fun a m => by have := h a m; simp [this]) q
            obtain ⟨T3, p2, r2⟩ := g4 (fun d u T h => tr d u T fun a m => by have := h a m; simp [this]) r1
            refine ⟨a :: T3, ?_, ?_⟩
            · refine ((p2.trans (p1.append_right T2)).cons a).trans ?_
              rw [List.append_assoc]
              exact List.perm_middle.symm
            · show Rp K H' L' (setP (.lst true xs) (k :: ks) z') (.ref a) (a :: T3)
              have es : setP (.lst true xs) (k :: ks) z' = .lst true (xs.set k (setP d1 ks z')) := by
                show (match xs[k]? with
                  | some d => D.lst true (xs.set k (setP d ks z'))
                  | none => .lst true xs) = _
                rw [hk]
              rw [es]
              exact ⟨a, vs, T3, rfl, by rw [same a (by simp)]; exact h1, rfl, r2⟩
    | _ => cases e
/-! ### operations that change -/
def OpMu (K : Frag) (r : V → List V → Hp → VK → Prop) (f : D → List D → Option (D × D)) : Prop :=
  ∀ (H : Hp) (A T R : List Addr) (d : D) (x : V) (ds : List D) (vs : List V) (d' e : D) (Q : VK), Rp K H (A ++ (T ++ R)) d x A → Rps K H (A ++ (T ++ R)) ds vs T → (A ++ (T ++ R)).Nodup → (∀ a ∈ A ++ (T ++ R), OwnO (H a)) → f d ds = some (d', e) →
    (∀ v H' A' T', Rp K H' (A' ++ (T' ++ R)) d' x A' → Rp K H' (A' ++ (T' ++ R)) e v T' → (A' ++ (T' ++ R)).Nodup → (∀ a u, H a = some u → a ∉ A → H' a = some u) → (∀ a ∈ A' ++ T', a ∈ A ++ T ∨ H a = none) → Q v H') → r x vs H Q
section
variable {c : Ctx} {J : List (Nat × V)}
theorem mu_core {K : Frag} {r : V → List V → Hp → VK → Prop} {f : D → List D → Option (D × D)} (hf : OpMu K r f) {H : Hp} {s : Sl} {σ : St} {O T F : List Addr} {i : Nat} {d z z' e : D} {ks : List Nat} {u x : V} {ds : List D} {vs : List V} {Q : VK}
    (o : Own K J H s σ O (T ++ F)) (hs : s[i]? = some (some d)) (hp : getP d ks = some z) (hu : σ[i]? = some (some u)) (w : Walk H u ks x) (rs : Rps K H (T ++ (O ++ F)) ds vs T) (hfz : f z ds = some (z', e))
    (q : ∀ v H' T' O', Rp K H' (T' ++ (O' ++ F)) e v T' → Own K J H' (s.set i (some (setP d ks z'))) σ O' (T' ++ F) → (∀ a u, H a = some u → a ∉ O → H' a = some u) → (∀ a ∈ O' ++ T', a ∈ O ∨ a ∈ T ∨ H a = none) → Q v H') : r x vs H Q := by
  obtain ⟨v0, O1, O2, h1, ⟨u', rfl, h2⟩, h3, h4⟩ := o.set hs
  rw [hu] at h1
  cases h1
  have hnd : (O1 ++ (O2 ++ (T ++ F))).Nodup := by
    have := (h3.append_right (T ++ F)).nodup_iff.mp o.nd
    rwa [List.append_assoc] at this
  obtain ⟨x', A1, A2, w1, w2, w3, w4⟩ := path_rp h2 (List.nodup_append.mp hnd).1 hp
  have ex := w.fn w1
  subst ex
  have pm : (O ++ (T ++ F)).Perm (A1 ++ (T ++ (A2 ++ (O2 ++ F)))) := by
    refine (h3.append_right (T ++ F)).trans ?_
    refine ((w3.append_right O2).append_right (T ++ F)).trans ?_
    rw [List.append_assoc, List.append_assoc]
    refine List.Perm.append_left A1 ?_
    rw [← List.append_assoc, ← List.append_assoc, ← List.append_assoc]
    refine ((List.perm_append_comm (l₁ := A2 ++ O2) (l₂ := T)).append_right F).trans ?_
    simp
  have hin : ∀ a, a ∈ A1 ++ (T ++ (A2 ++ (O2 ++ F))) → a ∈ O ++ (T ++ F) := fun a h => pm.symm.subset h
  have hin' : ∀ a, a ∈ A1 ++ (T ++ (A2 ++ (O2 ++ F))) → a ∈ T ++ (O ++ F) := fun a h => by
    have := hin a h
    simp only [List.mem_append] at this ⊢
    rcases this with z | z | z <;> simp [z]
  have nd1 := pm.nodup_iff.mp o.nd
  refine hf H A1 T (A2 ++ (O2 ++ F)) z x ds vs z' e Q (w2.anti hin) (rs.anti hin') nd1 (fun a h => o.own a (hin a h)) hfz fun v H' A' T' r1 r2 nd2 keep nw => ?_
  have nA : ∀ a, a ∈ T ++ (A2 ++ (O2 ++ F)) → a ∉ A1 := fun a h z => (List.nodup_append.mp nd1).2.2 a z a h rfl
  have cls : ∀ a ∈ A' ++ (T' ++ (A2 ++ (O2 ++ F))), a ∈ O ++ (T ++ F) ∨ H a = none := fun a h => by
    have h' : a ∈ A' ++ T' ∨ a ∈ A2 ++ (O2 ++ F) := by simp only [List.mem_append] at h ⊢; rcases h with z | z | z | z | z <;> simp [z]
    rcases h' with y | y
    · rcases nw a y with m | m
      · exact .inl (hin a (by simp only [List.mem_append] at m ⊢; rcases m with z | z <;> simp [z]))
      · exact .inr m
    · exact .inl (hin a (by simp only [List.mem_append] at y ⊢; rcases y with z | z | z <;> simp [z]))
  have mv : Mv H H' A1 (O ++ (T ++ F)) (A' ++ (T' ++ (A2 ++ (O2 ++ F)))) := ⟨keep, fun a h => o.own a (hin a (List.mem_append_left _ h)), fun a h => hin a (List.mem_append_left _ h), cls⟩
  have tr : ∀ d u T0, (∀ a ∈ T0, a ∉ A1) → Rp K H (O ++ (T ++ F)) d u T0 → Rp K H' (A' ++ (T' ++ (A2 ++ (O2 ++ F)))) d u T0 := fun d u T0 hT r => r.mv mv hT
  obtain ⟨A'', p1, r3⟩ := w4 (H' := H') (L' := A' ++ (T' ++ (A2 ++ (O2 ++ F)))) (fun a ha => by
    obtain ⟨y, e⟩ := OwnO.some (o.own a (hin a (by simp [ha])))
    rw [e]; exact keep a y e (nA a (by simp [ha]))) (fun d u T0 hT r => tr d u T0 (fun a ha => nA a (by simp [hT a ha])) r) r1
  have pm2 : (A'' ++ (O2 ++ (T' ++ F))).Perm (A' ++ (T' ++ (A2 ++ (O2 ++ F)))) := by
    refine (p1.append_right _).trans ?_
    rw [List.append_assoc]
    refine List.Perm.append_left A' ?_
    rw [← List.append_assoc, ← List.append_assoc, ← List.append_assoc]
    refine ((List.perm_append_comm (l₁ := A2 ++ O2) (l₂ := T')).append_right F).trans ?_
    simp
  obtain ⟨O3, p3, o3⟩ := h4 (H' := H') (F' := T' ++ F) (y := some (setP d ks z')) (w := some u) (U := A'') (fun a y hy n => keep a y hy fun m => n (w3.symm.subset (List.mem_append_left _ m)))
    (fun a ha => by
      have := p1.subset ha
      rcases List.mem_append.mp this with m | m
      · rcases nw a (List.mem_append_left _ m) with y | y
        · rcases List.mem_append.mp y with t | t
          · exact .inl (w3.symm.subset (List.mem_append_left _ t))
          · exact .inr (.inl (List.mem_append_left _ t))
        · exact .inr (.inr y)
      · exact .inl (w3.symm.subset (List.mem_append_right _ m)))
    (fun a ha => by
      rcases List.mem_append.mp ha with m | m
      · rcases nw a (List.mem_append_right _ m) with y | y
        · rcases List.mem_append.mp y with t | t
          · exact .inl (w3.symm.subset (List.mem_append_left _ t))
          · exact .inr (.inl (List.mem_append_left _ t))
        · exact .inr (.inr y)
      · exact .inr (.inl (List.mem_append_right _ m)))
    (pm2.symm.nodup_iff.mp nd2)
    (fun a ha => by
      rcases List.mem_append.mp ha with m | m
      · exact r2.own a m
      · have h := o.own a (by simp [m])
        obtain ⟨y, e⟩ := OwnO.some h
        rw [keep a y e (nA a (by simp [m]))]
        rw [e] at h
        exact h)
    (fun L' hL => ⟨u, rfl, r3.anti fun a ha => pm2.subset (hL a ha)⟩)
    (fun p hp hi => by have := o.pin p hp; rw [hi, hu] at this; exact Option.some.inj this)
  rw [set_same hu] at o3
  have clsO : ∀ a ∈ O3, a ∈ A' ++ (A2 ++ O2) := fun a ha => by
    rcases List.mem_append.mp (p3.subset ha) with m | m
    · rcases List.mem_append.mp (p1.subset m) with t | t <;> simp [t]
    · simp [m]
  refine q v H' T' O3 (r2.anti fun a ha => ?_) o3 (fun a y hy n => keep a y hy fun m => n (h3.symm.subset (List.mem_append_left _ (w3.symm.subset (List.mem_append_left _ m))))) fun a ha => ?_
  · simp only [List.mem_append] at ha ⊢
    rcases ha with m | m | m
    · exact .inr (.inl m)
    · have := clsO a m
      simp only [List.mem_append] at this
      rcases this with t | t | t <;> simp [t]
    · simp [m]
  · have : a ∈ A' ++ (T' ++ (A2 ++ (O2 ++ F))) ∧ (a ∈ A' ++ T' ∨ a ∈ A2 ++ O2) := by
      rcases List.mem_append.mp ha with m | m
      · have := clsO a m
        simp only [List.mem_append] at this ⊢
        rcases this with t | t | t <;> simp [t]
      · simp [m]
    rcases this.2 with m | m
    · rcases nw a m with y | y
      · rcases List.mem_append.mp y with t | t
        · exact .inl (h3.symm.subset (List.mem_append_left _ (w3.symm.subset (List.mem_append_left _ t))))
        · exact .inr (.inl t)
      · exact .inr (.inr y)
    · rcases List.mem_append.mp m with t | t
      · exact .inl (h3.symm.subset (List.mem_append_left _ (w3.symm.subset (List.mem_append_right _ t))))
      · exact .inl (h3.symm.subset (List.mem_append_right _ t))
/-! ### places -/
def PostP (c : Ctx) (J : List (Nat × V)) (i : Nat) (W : WX) (H : Hp) (σ : St) (O F : List Addr) (Q : VK) : R (List Nat) → Prop
  | .ok ks s' e => ∀ u x H' O', σ[i]? = some (some u) → Walk H' u ks x → Own c.K J H' s' σ O' F → Stp e H H' O [] O' → Q x H'
  | .exc x s' => XP c J W H σ O F x s'
  | .bad => False
def SndP (c : Ctx) (J : List (Nat × V)) (i : Nat) (te : WX → TE) (m : M (List Nat)) : Prop := ∀ W s σ H O F Q, Own c.K J H s σ O F → PostP c J i W H σ O F Q (m s) → te W σ H Q
def SPl (c : Ctx) (J : List (Nat × V)) (i : Nat) (e : Expr) (m : M (List Nat)) : Prop := ∃ te : WX → TE, (∀ W X, InC c X → Takes X W → PE X e (te W)) ∧ SndP c J i te m
def pNm (i : Nat) : M (List Nat) := fun s => match s[i]? with
  | some (some _) => .ok [] s false
  | _ => .bad
theorem sp_name (i : Nat) {x : Str} {pos : Pos} (hN : c.N[i]? = some x := by rfl) (hv : Vis c.scope x := by first | exact Or.inl rfl | exact Or.inr (Or.inl rfl) | exact Or.inr (Or.inr rfl))
    (hd : (x == ("__debug__" : Str)) = false := by decide) (hcd : (x == ("__classdict__" : Str)) = false := by decide) : SPl c J i (.Name x pos) (pNm i) := by
  refine ⟨fun _ => tVar i, fun W X hX _ => pe_var (by rw [hX.N]; exact hN) (by rw [hX.scope]; exact hv) hd hcd, fun W s σ H O F Q o q => ?_⟩
  unfold pNm at q
  split at q
  · rename_i d e
    obtain ⟨v, O1, O2, h1, h2, h3⟩ := own_get o e
    exact ⟨v, h1, q v v H O h1 rfl o Stp.refl⟩
  · exact q.elim
def pIx (i : Nat) (mp : M (List Nat)) (mi : M Val) : M (List Nat) := fun s => match mp s with
  | .ok ks s1 e1 => (match mi s1 with
    | .ok (_, .int k) s2 false => (match s2[i]? with
      | some (some d) => (match getP d ks with
        | some (.lst true xs) => (match ixN xs.length k with
          | some j => if decide (j < xs.length) = true then .ok (ks ++ [j]) s2 e1 else .bad
          | none => .bad)
        | _ => .bad)
      | _ => .bad)
    | _ => .bad)
  | .exc x s' => .exc x s'
  | .bad => .bad
theorem walk_rp {K : Frag} {H : Hp} {s : Sl} {σ : St} {O F : List Addr} {i : Nat} {d z : D} {ks : List Nat} {u x : V} (o : Own K J H s σ O F) (hs : s[i]? = some (some d)) (hp : getP d ks = some z) (hu : σ[i]? = some (some u)) (w : Walk H u ks x) :
    ∃ A, Rp K H (O ++ F) z x A := by
  obtain ⟨v, O1, O2, h1, h2, h3⟩ := own_get o hs
  rw [hu] at h1
  cases h1
  obtain ⟨x', A1, A2, w1, w2, w3, w4⟩ := path_rp h2 ((h3.nodup_iff.mp (List.nodup_append.mp o.nd).1 |> List.nodup_append.mp).1) hp
  rw [w.fn w1]
  exact ⟨A1, w2⟩
theorem stp_ext {H H' : Hp} {O T O' : List Addr} (p : Stp false H H' O T O') : ∀ a u, H a = some u → H' a = some u := fun a u h => p.keep a u h fun z => by cases z
theorem snd_pIx {tp ti : WX → TE} {i : Nat} {mp : M (List Nat)} {mi : M Val} (qp : SndP c J i tp mp) (qi : SndE c J ti mi) : SndP c J i (fun W => tOp (rIx c.K) (tp W) (ti W)) (pIx i mp mi) := by
  intro W s σ H O F Q o k
  refine qp W s σ H O F _ o ?_
  unfold pIx at k
  cases h1 : mp s with
  | bad => rw [h1] at k; exact k
  | exc x s1 => rw [h1] at k; exact k
  | ok ks s1 e1 =>
    rw [h1] at k
    intro u x H1 O1 hu w o1 p1
    refine qi W s1 σ H1 O1 F _ o1 ?_
    simp only [] at k
    split at k
    · rename_i b1 n s2 h2
      rw [h2]
      intro v H2 T2 O2 r2 o2 p2
      split at k
      · rename_i d hd
        split at k
        · rename_i xs hg
          split at k
          · rename_i j hj
            split at k
            · rename_i hlt
              have w2 := w.ext (stp_ext p2)
              have od := o2.drop
              obtain ⟨A, ra⟩ := walk_rp od hd hg hu w2
              obtain ⟨p, vs, B, rfl, g1, g2, _⟩ := ra.seqL
              obtain ⟨rfl, _⟩ := r2
              have hl : j < vs.length := by rw [← g2.length]; exact of_decide_eq_true hlt
              have hv : vs[j]? = some vs[j] := List.getElem?_eq_getElem hl
              have pd : Stp e1 H H2 O [] O2 := by
                have := p1.trans (p2.sub (T' := []) (by simp) fun _ z => z)
                simpa using this
              exact .inl ⟨p, vs, n, vs[j], rfl, rfl, SqL.of g1, by unfold atI; rw [← g2.length, hj]; exact hv, k u _ H2 O2 hu (w2.snoc ⟨p, vs, rfl, g1, hv⟩) od pd⟩
            · exact k.elim
          · exact k.elim
        · exact k.elim
      · exact k.elim
    · exact k.elim
theorem sp_ix {i : Nat} {a b : Expr} {pos : Pos} {mp : M (List Nat)} {mi : M Val} (ha : SPl c J i a mp) (hb : SE c J b mi) (hs : PlainIx b := by intro _ _; rfl) : SPl c J i (.Subscript a b pos) (pIx i mp mi) := by
  obtain ⟨ta, pa, qa⟩ := ha
  obtain ⟨tb, pb, qb⟩ := hb
  exact ⟨_, fun W X hX tk => pe_ix (by rw [← hX.K]; exact ix_seq) (pa W X hX tk) (pb W X hX tk) hs, snd_pIx qa qb⟩
end
end VL
/-! VL 14: methods that change, stores by index -/
namespace VL
open PySem PySem.Spec L2
theorem mv_upd {H : Hp} {a : Addr} {o : HO} {L L' : List Addr} (h : OwnO (H a)) (ha : a ∈ L) (hL : ∀ b ∈ L', b ∈ L) : Mv H (upd H a o) [a] L L' :=
  ⟨fun b u e n => by rw [upd_ne (fun z => n (by simp [z]))]; exact e, by simpa using h, by simpa using ha, fun b hb => .inl (hL b hb)⟩
theorem upd_at {H : Hp} {a : Addr} {o : HO} : upd H a o a = some o := by unfold upd; rw [if_pos rfl]
theorem Rps.out {K : Frag} {H : Hp} {L : List Addr} : ∀ {ds : List D} {vs : List V} {T : List Addr} {i : Nat} {d : D}, Rps K H L ds vs T → ds[i]? = some d →
    ∃ v T1 T2, vs[i]? = some v ∧ Rp K H L d v T1 ∧ T.Perm (T1 ++ T2) ∧ Rps K H L (ds.eraseIdx i) (vs.eraseIdx i) T2
  | [], _, _, _, _, _, e => by simp at e
  | d0 :: ds, _, _, 0, d, r, e => by
    obtain ⟨v, vs', T1, T2, rfl, rfl, e3, e4⟩ := r
    have : d0 = d := by simpa using e
    subst this
    exact ⟨v, T1, T2, rfl, e3, .refl _, e4⟩
  | d0 :: ds, _, _, i + 1, d, r, e => by
    obtain ⟨v, vs', T1, T2, rfl, rfl, e3, e4⟩ := r
    obtain ⟨w, A, B, h1, h2, h3, h4⟩ := Rps.out (i := i) (d := d) e4 (by simpa using e)
    exact ⟨w, A, T1 ++ B, by simpa using h1, h2, (List.Perm.append_left T1 h3).trans perm_mid, ⟨v, _, T1, B, rfl, rfl, e3, h4⟩⟩
section
variable {K : Frag}
/-- the rewritten list at a, its parts X, what comes out e -/
theorem mu_lst {H : Hp} {a : Addr} {T' T R X Te : List Addr} {ys : List D} {ws : List V} {e : D} {v : V} {Q : VK} (own : ∀ b ∈ a :: T' ++ (T ++ R), OwnO (H b)) (nd : (a :: T' ++ (T ++ R)).Nodup)
    (ry : Rps K H (a :: T' ++ (T ++ R)) ys ws X) (re : Rp K H (a :: T' ++ (T ++ R)) e v Te) (hs : ∀ b ∈ X ++ Te, b ∈ T' ++ T) (hn : (X ++ Te).Nodup)
    (q : ∀ v H' A' T'', Rp K H' (A' ++ (T'' ++ R)) (.lst true ys) (.ref a) A' → Rp K H' (A' ++ (T'' ++ R)) e v T'' → (A' ++ (T'' ++ R)).Nodup → (∀ b u, H b = some u → b ∉ a :: T' → H' b = some u) → (∀ b ∈ A' ++ T'', b ∈ a :: T' ++ T ∨ H b = none) → Q v H') : Q v (upd H a (.lst ws)) := by
  have nd' : (a :: (T' ++ (T ++ R))).Nodup := by simpa using nd
  have ha := (List.nodup_cons.mp nd').1
  have hsub : ∀ b ∈ X ++ Te, b ≠ a := fun b hb e => by
    subst e
    have := hs b hb
    exact ha (by simp only [List.mem_append] at this ⊢; rcases this with z | z <;> simp [z])
  have ndR := (List.nodup_cons.mp nd').2
  have hin : ∀ b ∈ a :: X ++ (Te ++ R), b ∈ a :: T' ++ (T ++ R) := fun b hb => by
    have hb' : b = a ∨ b ∈ X ++ Te ∨ b ∈ R := by simpa [or_assoc] using hb
    rcases hb' with z | z | z
    · simp [z]
    · have := hs b z
      simp only [List.cons_append, List.mem_cons, List.mem_append] at this ⊢
      rcases this with y | y <;> simp [y]
    · simp [z]
  have mv : Mv H (upd H a (.lst ws)) [a] (a :: T' ++ (T ++ R)) (a :: X ++ (Te ++ R)) := mv_upd (own a (by simp)) (by simp) hin
  refine q v _ (a :: X) Te ⟨a, ws, X, rfl, upd_at, rfl, ry.mv mv fun b hb z => hsub b (List.mem_append_left _ hb) (by simpa using z)⟩ (re.mv mv fun b hb z => hsub b (List.mem_append_right _ hb) (by simpa using z)) ?_ (fun b u e n => by rw [upd_ne (fun z => n (by simp [z]))]; exact e) fun b hb => .inl ?_
  · rw [List.cons_append]
    refine List.nodup_cons.mpr ⟨fun z => ?_, ?_⟩
    · have z' : a ∈ X ++ Te ∨ a ∈ R := by simpa [or_assoc] using z
      rcases z' with y | y
      · exact hsub a y rfl
      · exact ha (by simp [y])
    · rw [← List.append_assoc]
      have ndR' : ((T' ++ T) ++ R).Nodup := by rw [List.append_assoc]; exact ndR
      refine List.nodup_append.mpr ⟨hn, (List.nodup_append.mp ndR').2.1, fun x hx y hy exy => ?_⟩
      exact (List.nodup_append.mp ndR').2.2 x (hs x hx) y hy exy
  · have hb' : b = a ∨ b ∈ X ++ Te := by simpa [or_assoc] using hb
    rcases hb' with z | z
    · simp [z]
    · have := hs b z
      simp only [List.cons_append, List.mem_cons, List.mem_append] at this ⊢
      rcases this with y | y <;> simp [y]
def mAppend : D → List D → Option (D × D)
  | .lst true xs, [d] => if fits (xs.length + 1) = true then some (.lst true (xs ++ [d]), .non) else none
  | _, _ => none
theorem fits_lt {n : Nat} (h : fits (n + 1) = true) : n < sizeLine := by have := fits_line h; omega
theorem mu_append : OpMu K rAppend mAppend := by
  intro H A T R z x ds vs z' e Q r rs nd own hf q
  unfold mAppend at hf
  split at hf
  · rename_i xs d
    split at hf
    · rename_i hz
      cases hf
      obtain ⟨a, ws, T', rfl, h1, rfl, h2⟩ := r
      obtain ⟨v, rfl, r1⟩ := rps1 rs
      refine ⟨a, ws, v, rfl, rfl, h1, by rw [← h2.length]; exact fits_lt hz, ?_⟩
      refine mu_lst (X := T' ++ T) (Te := []) (ys := xs ++ [d]) (e := .non) own nd (h2.append (es := [d]) (ws := [v]) ⟨v, [], T, [], rfl, by simp, r1, rfl, rfl⟩) ⟨rfl, rfl⟩ (by simp) ?_ q
      have nd' : (a :: ((T' ++ T) ++ R)).Nodup := by simpa using nd
      simpa using (List.nodup_append.mp (List.nodup_cons.mp nd').2).1
    · cases hf
  · cases hf
def mPop : D → List D → Option (D × D)
  | .lst true xs, [] => (xs[xs.length - 1]?).map fun d => (.lst true (xs.eraseIdx (xs.length - 1)), d)
  | _, _ => none
theorem erase_last {α : Type} : ∀ l : List α, l.eraseIdx (l.length - 1) = l.dropLast
  | [] => rfl
  | [_] => rfl
  | x :: y :: r => by
    have := erase_last (y :: r)
    simp only [List.length_cons, Nat.add_sub_cancel] at this ⊢
    rw [List.eraseIdx_cons_succ, this]
    rfl
theorem sub_in {T' T1 T2 T : List Addr} (p : T'.Perm (T1 ++ T2)) : ∀ b ∈ T2 ++ T1, b ∈ T' ++ T := fun b hb => by
  refine List.mem_append_left _ (p.symm.subset ?_)
  simp only [List.mem_append] at hb ⊢
  exact hb.symm
theorem sub_nd {a : Addr} {T' T1 T2 T R : List Addr} (p : T'.Perm (T1 ++ T2)) (nd : (a :: T' ++ (T ++ R)).Nodup) : (T2 ++ T1).Nodup := by
  have nd' : (a :: (T' ++ (T ++ R))).Nodup := by simpa using nd
  have := (List.nodup_append.mp (List.nodup_cons.mp nd').2).1
  exact (p.trans List.perm_append_comm).nodup_iff.mp this
theorem mu_pop : OpMu K rPop mPop := by
  intro H A T R z x ds vs z' e Q r rs nd own hf q
  unfold mPop at hf
  split at hf
  · rename_i xs
    cases hk : xs[xs.length - 1]? with
    | none => rw [hk] at hf; cases hf
    | some d =>
      rw [hk] at hf
      cases hf
      obtain ⟨a, ws, T', rfl, h1, rfl, h2⟩ := r
      obtain ⟨rfl, rfl⟩ := rs
      obtain ⟨v, T1, T2, g1, g2, g3, g4⟩ := h2.out hk
      refine ⟨a, ws, v, rfl, rfl, h1, by rw [← h2.length]; exact g1, ?_⟩
      rw [← erase_last, ← h2.length]
      exact mu_lst (X := T2) (Te := T1) own nd g4 g2 (sub_in g3) (sub_nd g3 nd) q
  · cases hf
def mPopAt : D → List D → Option (D × D)
  | .lst true xs, [.int i] => if i62 i = true then (seqIndex? i xs.length).bind fun k => (xs[k]?).map fun d => (.lst true (xs.eraseIdx k), d) else none
  | _, _ => none
theorem mu_popAt : OpMu K rPopAt mPopAt := by
  intro H A T R z x ds vs z' e Q r rs nd own hf q
  unfold mPopAt at hf
  split at hf
  · rename_i xs i
    split at hf
    · rename_i hi
      cases hq : seqIndex? i xs.length with
      | none => rw [hq] at hf; cases hf
      | some k =>
        rw [hq] at hf
        have hf : (xs[k]?).map (fun d => (D.lst true (xs.eraseIdx k), d)) = some (z', e) := hf
        cases hk : xs[k]? with
        | none => rw [hk] at hf; cases hf
        | some d =>
          rw [hk] at hf
          cases hf
          obtain ⟨a, ws, T', rfl, h1, rfl, h2⟩ := r
          obtain ⟨w, rfl, rfl, rfl⟩ := rps1 rs
          obtain ⟨v, T1, T2, g1, g2, g3, g4⟩ := h2.out hk
          have hi' := i62_ok hi
          refine ⟨a, ws, i, k, v, rfl, rfl, h1, by omega, by omega, by rw [← h2.length]; exact hq, g1, ?_⟩
          exact mu_lst (X := T2) (Te := T1) own nd g4 g2 (sub_in g3) (sub_nd g3 nd) q
    · cases hf
  · cases hf
def mReverse : D → List D → Option (D × D)
  | .lst true xs, [] => some (.lst true xs.reverse, .non)
  | _, _ => none
def mSet : D → List D → Option (D × D)
  | .lst true xs, [.int k, d] => (ixN xs.length k).bind fun j => (xs[j]?).map fun _ => (.lst true (xs.set j d), .non)
  | _, _ => none
def rSetV : V → List V → Hp → VK → Prop := fun x vs H Q => match vs with
  | [i, v] => rSetL x i v H fun H' => Q .non H'
  | _ => False
theorem mu_set : OpMu K rSetV mSet := by
  intro H A T R z x ds vs z' e Q r rs nd own hf q
  unfold mSet at hf
  split at hf
  · rename_i xs k d
    cases hq : ixN xs.length k with
    | none => rw [hq] at hf; cases hf
    | some j =>
      rw [hq] at hf
      have hf : (xs[j]?).map (fun _ => (D.lst true (xs.set j d), D.non)) = some (z', e) := hf
      cases hk : xs[j]? with
      | none => rw [hk] at hf; cases hf
      | some d0 =>
        rw [hk] at hf
        cases hf
        obtain ⟨a, ws, T', rfl, h1, rfl, h2⟩ := r
        obtain ⟨w, v, T1, T2, rfl, rfl, ⟨rfl, rfl⟩, r1⟩ := rps2 rs
        obtain ⟨v0, U1, U2, g1, g2, g3, g4⟩ := h2.swap hk
        obtain ⟨T3, p3, r3⟩ := g4 (U := T2) r1
        refine ⟨a, ws, k, j, rfl, rfl, h1, by rw [← h2.length]; exact hq, ?_⟩
        have nd' : (a :: ((T' ++ T2) ++ R)).Nodup := by simpa using nd
        have ndT := (List.nodup_append.mp (List.nodup_cons.mp nd').2).1
        have pm : (T' ++ T2).Perm (U1 ++ T3) := by
          refine (g3.append_right T2).trans ?_
          rw [List.append_assoc]
          exact List.Perm.append_left U1 (List.perm_append_comm.trans p3.symm)
        have := (List.nodup_append.mp (pm.nodup_iff.mp ndT)).2.1
        refine mu_lst (v := .non) (e := .non) (Q := Q) (X := T3) (Te := []) own nd r3 ⟨rfl, rfl⟩ (fun b hb => ?_) (by simpa using this) q
        have hb : b ∈ T3 := by simpa using hb
        exact pm.symm.subset (List.mem_append_right _ hb)
  · cases hf
end
/-! ### the method call -/
def ownL : D → Bool
  | .lst true _ => true
  | _ => false
def slP (s : Sl) (i : Nat) (ks : List Nat) : Option (D × D) := match s[i]? with
  | some (some d) => (getP d ks).map fun z => (d, z)
  | _ => none
theorem slP_some {s : Sl} {i : Nat} {ks : List Nat} {d z : D} (h : slP s i ks = some (d, z)) : s[i]? = some (some d) ∧ getP d ks = some z := by
  unfold slP at h
  split at h
  · rename_i d' e
    cases hg : getP d' ks with
    | none => rw [hg] at h; cases h
    | some z' => rw [hg] at h; cases h; exact ⟨e, hg⟩
  · cases h
def eMuG (okz : D → Bool) (i : Nat) (mp : M (List Nat)) (ma : M (Bool × List D)) (f : D → List D → Option (D × D)) : M Val := fun s => match mp s with
  | .ok ks s1 e1 => (match slP s1 i ks with
    | some (_, z0) => if okz z0 = true then (match ma s1 with
      | .ok (b, ds) s2 e2 => if ((b || noFzs ds) && (ks.isEmpty || !e2)) = true then (match slP s2 i ks with
        | some (d, z) => (match f z ds with
          | some (z', e) => .ok (true, e) (s2.set i (some (setP d ks z'))) true
          | none => .bad)
        | none => .bad) else .bad
      | _ => .bad) else .bad
    | none => .bad)
  | .exc x s' => .exc x s'
  | .bad => .bad
abbrev eMu := eMuG ownL
section
variable {c : Ctx} {J : List (Nat × V)}
theorem tyV_lst {K : Frag} {H : Hp} {L A : List Addr} {z : D} {x : V} (r : Rp K H L z x A) (h : ownL z = true) : tyV K "list" x H := by
  unfold ownL at h
  split at h
  · obtain ⟨a, ws, T', rfl, h1, _⟩ := r
    exact .inl ⟨rfl, ws, SqL.of h1⟩
  · cases h
theorem snd_muG {tp : WX → TE} {ta : WX → TA} {i : Nat} {mp : M (List Nat)} {ma : M (Bool × List D)} {r : V → List V → Hp → VK → Prop} {f : D → List D → Option (D × D)} {okz : D → Bool} {KK : WX → St → VK → V → Hp → Prop} (qp : SndP c J i tp mp) (qa : SndA c J ta ma) (hf : OpMu c.K r f)
    (hK : ∀ W σ Q x H1 L A z, Rp c.K H1 L z x A → okz z = true → ta W σ H1 (fun xs H2 => r x xs H2 Q) → KK W σ Q x H1) :
    SndE c J (fun W => fun σ H Q => tp W σ H fun x H1 => KK W σ Q x H1) (eMuG okz i mp ma f) := by
  intro W s σ H O F Q o k
  refine qp W s σ H O F _ o ?_
  unfold eMuG at k
  cases h1 : mp s with
  | bad => rw [h1] at k; exact k
  | exc x s1 => rw [h1] at k; exact k
  | ok ks s1 e1 =>
    rw [h1] at k
    intro u x H1 O1 hu w o1 p1
    simp only [] at k
    split at k
    · rename_i d0 z0 hz0
      split at k
      · rename_i hown
        obtain ⟨g1, g2⟩ := slP_some hz0
        obtain ⟨A, ra⟩ := walk_rp o1 g1 g2 hu w
        refine hK W σ Q x H1 _ A z0 ra hown ?_
        refine qa W s1 σ H1 O1 F _ o1 ?_
        split at k
        · rename_i b ds s2 e2 h2
          rw [h2]
          intro vs H2 T2 O2 r2 o2 p2
          split at k
          · rename_i hc
            simp only [Bool.and_eq_true] at hc
            split at k
            · rename_i d z hz
              split at k
              · rename_i z' e hfz
                obtain ⟨g3, g4⟩ := slP_some hz
                have rs := stricts_of hc.1 r2
                have w2 : Walk H2 u ks x := by
                  rcases Bool.or_eq_true_iff.mp hc.2 with y | y
                  · have : ks = [] := by simpa using y
                    subst this
                    exact w
                  · have : e2 = false := by simpa using y
                    subst this
                    exact w.ext (stp_ext p2)
                refine mu_core hf o2 g3 g4 hu w2 rs hfz fun v H3 T3 O3 r3 o3 keep nw => ?_
                have st : Stp true H H3 O T3 O3 := by
                  have inO : ∀ a, a ∈ O2 ∨ a ∈ T2 ∨ H2 a = none → a ∈ O ∨ H a = none := fun a h => by
                    have f1 : a ∈ O1 ∨ H1 a = none → a ∈ O ∨ H a = none := fun y => by
                      rcases y with y | y
                      · exact p1.newO a y
                      · by_cases m : a ∈ O
                        · exact .inl m
                        · exact .inr (p1.free y m)
                    rcases h with y | y | y
                    · exact f1 (p2.newO a y)
                    · exact f1 ((p2.newT a y).imp (fun z => z.2) fun z => z)
                    · refine f1 ?_
                      by_cases m : a ∈ O1
                      · exact .inl m
                      · exact .inr (p2.free y m)
                  refine ⟨fun a y hy n => ?_, fun a ha => ?_, fun a ha => ?_⟩
                  · have n0 := n rfl
                    have e1' := p1.keep a y hy fun _ => n0
                    have n1 : a ∉ O1 := fun m => by
                      rcases p1.newO a m with z | z
                      · exact n0 z
                      · rw [hy] at z; cases z
                    have e2' := p2.keep a y e1' fun _ => n1
                    refine keep a y e2' fun m => ?_
                    rcases p2.newO a m with z | z
                    · exact n1 z
                    · rw [e1'] at z; cases z
                  · exact (inO a (nw a (List.mem_append_right _ ha))).imp (fun z => ⟨rfl, z⟩) fun z => z
                  · exact inO a (nw a (List.mem_append_left _ ha))
                exact k v H3 T3 O3 (by simpa [av] using r3) o3 st
              · exact k.elim
            · exact k.elim
          · exact k.elim
        · exact k.elim
      · exact k.elim
    · exact k.elim
theorem snd_mu {tp : WX → TE} {ta : WX → TA} {i : Nat} {mp : M (List Nat)} {ma : M (Bool × List D)} {r : V → List V → Hp → VK → Prop} {f : D → List D → Option (D × D)} (qp : SndP c J i tp mp) (qa : SndA c J ta ma) (hf : OpMu c.K r f) :
    SndE c J (fun W => fun σ H Q => tp W σ H fun x H1 => tyV c.K "list" x H1 ∧ ta W σ H1 fun xs H2 => r x xs H2 Q) (eMu i mp ma f) :=
  snd_muG (KK := fun W σ Q x H1 => tyV c.K "list" x H1 ∧ ta W σ H1 fun xs H2 => r x xs H2 Q) qp qa hf fun W σ Q x H1 L A z r h k => ⟨tyV_lst r h, k⟩
variable {i : Nat} {a e : Expr} {pos apos : Pos} {mp : M (List Nat)} {me : M Val}
theorem se_append (hp : SPl c J i a mp) (ha : SE c J e me) (hb : ∀ env : Env, attributeBase a "append" env (eval a env) = eval a env := by intro _; rfl) (hl : (apos.endLine == pos.line) = true := by rfl)
    (hs : ∀ env : Env, starEach [e] env = (false, eval e env) :: starEach [] env := by intro _; rfl)
    (hw : ∀ env : Env, ((backTo pos (starEach [e] env)).all (fun x => !x.1) && (backToKw pos (keywordEach [] env)).all (fun x => x.1.isSome) && decide ([e].length + ([] : List Keyword).length + (if ([] : List Keyword).isEmpty then 0 else 1) < 30)) = true := by intro _; rfl) :
    SE c J (.Call (.Attribute a "append" apos) [e] [] pos) (eMu i mp (aCons me aNil) mAppend) := by
  obtain ⟨tp, pp, qp⟩ := hp
  obtain ⟨ta, pa, qa⟩ := ha
  exact ⟨_, fun W X hX tk => by rw [← hX.K]; exact pe_bm PySem.F.plainAttrs_list PySem.F.slot_list_append PySem.F.type_list_append mt_append (pp W X hX tk) (pa_cons (pa W X hX tk) pa_nil (hs _)) (hb _) (hw _) hl (hs _) rfl, snd_mu qp (snd_cons qa snd_nil) mu_append⟩
theorem se_popAt (hp : SPl c J i a mp) (ha : SE c J e me) (hb : ∀ env : Env, attributeBase a "pop" env (eval a env) = eval a env := by intro _; rfl) (hl : (apos.endLine == pos.line) = true := by rfl)
    (hs : ∀ env : Env, starEach [e] env = (false, eval e env) :: starEach [] env := by intro _; rfl)
    (hw : ∀ env : Env, ((backTo pos (starEach [e] env)).all (fun x => !x.1) && (backToKw pos (keywordEach [] env)).all (fun x => x.1.isSome) && decide ([e].length + ([] : List Keyword).length + (if ([] : List Keyword).isEmpty then 0 else 1) < 30)) = true := by intro _; rfl) :
    SE c J (.Call (.Attribute a "pop" apos) [e] [] pos) (eMu i mp (aCons me aNil) mPopAt) := by
  obtain ⟨tp, pp, qp⟩ := hp
  obtain ⟨ta, pa, qa⟩ := ha
  exact ⟨_, fun W X hX tk => by rw [← hX.K]; exact pe_bm PySem.F.plainAttrs_list PySem.F.slot_list_pop PySem.F.type_list_pop mt_popAt (pp W X hX tk) (pa_cons (pa W X hX tk) pa_nil (hs _)) (hb _) (hw _) hl (hs _) rfl, snd_mu qp (snd_cons qa snd_nil) mu_popAt⟩
theorem se_pop (hp : SPl c J i a mp) (hb : ∀ env : Env, attributeBase a "pop" env (eval a env) = eval a env := by intro _; rfl) (hl : (apos.endLine == pos.line) = true := by rfl) :
    SE c J (.Call (.Attribute a "pop" apos) [] [] pos) (eMu i mp aNil mPop) := by
  obtain ⟨tp, pp, qp⟩ := hp
  exact ⟨_, fun W X hX tk => by rw [← hX.K]; exact pe_bm0 PySem.F.plainAttrs_list PySem.F.slot_list_pop PySem.F.type_list_pop mt_pop (pp W X hX tk) (hb _) hl, snd_mu qp snd_nil mu_pop⟩
end
end VL
/-! VL 15: stores by index, side by side, loops that take their items, calls by keyword -/
namespace VL
open PySem PySem.Spec L2
section
variable {c : Ctx} {J : List (Nat × V)}
def gSb (i : Nat) (mp : M (List Nat)) (mi : M Val) : D → Sl → Option Sl := fun d s => match mp s with
  | .ok ks s1 false => (match mi s1 with
    | .ok (_, .int k) s2 false => (match slP s2 i ks with
      | some (d0, z) => (match mSet z [.int k, d] with
        | some (z', .non) => some (s2.set i (some (setP d0 ks z')))
        | _ => none)
      | none => none)
    | _ => none)
  | _ => none
theorem snd_gSb {tp ti : WX → TE} {i : Nat} {mp : M (List Nat)} {mi : M Val} (qp : SndP c J i tp mp) (qi : SndE c J ti mi) : SndG c J [] (fun W => gSub (tp W) (ti W) rSetL) (gSb i mp mi) := by
  intro W s s' σ H O T F d v Q o r hg k
  unfold gSb at hg
  split at hg
  · rename_i ks s1 h1
    refine qp W s σ H O (T ++ F) _ o ?_
    rw [h1]
    intro u x H1 O1 hu w o1 p1
    split at hg
    · rename_i b1 n s2 h2
      refine qi W s1 σ H1 O1 (T ++ F) _ o1 ?_
      rw [h2]
      intro v2 H2 T2 O2 r2 o2 p2
      obtain ⟨rfl, rfl⟩ := r2
      have o2' : Own c.K J H2 s2 σ O2 (T ++ F) := o2.drop
      split at hg
      · rename_i d0 z hz
        split at hg
        · rename_i z' hset
          cases hg
          obtain ⟨g3, g4⟩ := slP_some hz
          have x1 := stp_ext p1
          have x2 := stp_ext p2
          have inO : ∀ a ∈ O2, a ∈ O ∨ H a = none := fun a ha => by
            rcases p2.newO a ha with y | y
            · exact p1.newO a y
            · refine .inr ?_
              cases q : H a with
              | none => rfl
              | some u => rw [x1 a u q] at y; cases y
          have rr : Rp c.K H2 (T ++ (O2 ++ F)) d v T := r.ext (fun a u h => x2 a u (x1 a u h)) fun a ha => by
            rcases List.mem_append.mp ha with z | z
            · exact .inl (List.mem_append_left _ z)
            · rcases List.mem_append.mp z with z | z
              · exact (inO a z).imp (fun y => List.mem_append_right _ (List.mem_append_left _ y)) fun y => y
              · exact .inl (List.mem_append_right _ (List.mem_append_right _ z))
          have rs : Rps c.K H2 (T ++ (O2 ++ F)) [.int n, d] [.int n, v] T := ⟨_, _, [], T, rfl, rfl, ⟨rfl, rfl⟩, _, _, T, [], rfl, by simp, rr, rfl, rfl⟩
          refine mu_core (r := rSetV) (Q := fun _ H' => Q σ H') mu_set o2' g3 g4 hu (w.ext x2) rs hset fun v3 H3 T3 O3 r3 o3 keep nw => ?_
          obtain ⟨_, rfl⟩ := r3
          refine k σ H3 O3 o3 ⟨fun a y hy n => ?_, by simp, fun a ha => ?_⟩ ⟨rfl, fun _ _ => rfl⟩
          · have n' : a ∉ O := fun m => n rfl (List.mem_append_right _ m)
            refine keep a y (x2 a y (x1 a y hy)) fun m => ?_
            rcases inO a m with z | z
            · exact n' z
            · rw [hy] at z; cases z
          · rcases nw a (by simp [ha]) with z | z | z
            · exact (inO a z).imp (fun y => List.mem_append_right _ y) fun y => y
            · exact .inl (List.mem_append_left _ z)
            · refine .inr ?_
              cases q : H a with
              | none => rfl
              | some u => rw [x2 a u (x1 a u q)] at z; cases z
        · cases hg
      · cases hg
    · cases hg
  · cases hg
theorem sg_sub {i : Nat} {a b : Expr} {pos : Pos} {mp : M (List Nat)} {mi : M Val} (hp : SPl c J i a mp) (hi : SE c J b mi)
    (ha : ∀ (env : Env) v, assign (.Subscript a b pos) env v = (do
      let ov ← holding [v] (eval a env)
      let iv ← holding [v, ov] (eval b env)
      standAt pos
      holding [v, ov, iv] (setItem ov iv v)
      release [v, ov, iv] []) := by intro _ _; rfl) : SG c J [] (.Subscript a b pos) (gSb i mp mi) := by
  obtain ⟨tp, pp, qp⟩ := hp
  obtain ⟨ti, pi, qi⟩ := hi
  exact ⟨_, fun W X hX tk => pg_sub (pp W X hX tk) (pi W X hX tk) set_list (ha _), snd_gSb qp qi⟩
/-! ### a, b = x, y -/
def puts : List Nat → List D → Sl → Option Sl
  | [], [], s => some s
  | i :: is, d :: ds, s => puts is ds (s.set i (some d))
  | _, _, _ => none
def sets : List Nat → List V → St → St
  | i :: is, v :: vs, σ => sets is vs (σ.set i (some v))
  | _, _, σ => σ
theorem Own.puts {K : Frag} {H : Hp} {F : List Addr} : ∀ {is : List Nat} {ds : List D} {vs : List V} {s s' : Sl} {σ : St} {O T : List Addr}, Own K J H s σ O (T ++ F) → Rps K H (T ++ (O ++ F)) ds vs T → (∀ i ∈ is, notPin J i) → VL.puts is ds s = some s' →
    ∃ O', (∀ a ∈ O', a ∈ T ∨ a ∈ O) ∧ Own K J H s' (sets is vs σ) O' F
  | [], [], vs, s, s', σ, O, T, o, r, _, h => by
    cases h
    obtain ⟨rfl, rfl⟩ := r
    exact ⟨O, fun _ h => .inr h, by simpa [sets] using o⟩
  | i :: is, d :: ds, vs, s, s', σ, O, T, o, r, hn, h => by
    obtain ⟨v, vs', T1, T2, rfl, rfl, r1, r2⟩ := r
    have eT : (T1 ++ T2 ++ F) = T1 ++ (T2 ++ F) := List.append_assoc _ _ _
    rw [eT] at o
    obtain ⟨O1, h1, o1⟩ := o.put (r1.anti fun a => by simp only [List.mem_append]; rintro (z | z | z | z) <;> simp [z]) i (hn i (by simp))
    obtain ⟨O2, h2, o2⟩ := Own.puts (is := is) (ds := ds) o1 (r2.anti fun a => by
      simp only [List.mem_append]
      rintro (z | z | z)
      · simp [z]
      · rcases h1 a z with y | y <;> simp [y]
      · simp [z]) (fun j hj => hn j (by simp [hj])) h
    exact ⟨O2, fun a ha => by
      rcases h2 a ha with z | z
      · exact .inl (by simp [z])
      · exact (h1 a z).imp (fun y => by simp [y]) fun y => y, o2⟩
  | [], _ :: _, _, _, _, _, _, _, _, _, _, h => by cases h
  | _ :: _, [], _, _, _, _, _, _, _, _, _, h => by cases h
def sPar (ma : M (Bool × List D)) (is : List Nat) : MS := fun s => match ma s with
  | .ok (b, ds) s' _ => if (b || noFzs ds) = true then (match puts is ds s' with
    | some s2 => .nx s2
    | none => .bad) else .bad
  | .exc x s' => .exc x s'
  | .bad => .bad
theorem snd_par {ta : WX → TA} {ma : M (Bool × List D)} {is : List Nat} (qa : SndA c J ta ma) (hn : ∀ i ∈ is, notPin J i) : SndS c J (fun W => fun D σ H => ta W σ H fun vs H1 => vs.length = is.length ∧ D.nx (sets is vs σ) H1) (sPar ma is) := by
  intro W E s σ H O F o k
  refine qa W s σ H O F _ o ?_
  unfold sPar at k
  cases h1 : ma s with
  | bad => rw [h1] at k; exact k
  | exc x s1 => rw [h1] at k; exact XP.stmt k
  | ok bd s1 e1 =>
    obtain ⟨b, ds⟩ := bd
    rw [h1] at k
    intro vs H1 T1 O1 r1 o1 p1
    simp only [] at k
    split at k
    · rename_i hb
      split at k
      · rename_i s2 hg
        have rs := stricts_of hb r1
        obtain ⟨O2, h2, o2⟩ := o1.puts rs hn hg
        have hl : ∀ {is : List Nat} {ds : List D} {s s' : Sl}, puts is ds s = some s' → ds.length = is.length := by
          intro is
          induction is with
          | nil => intro ds s s' h; cases ds with | nil => rfl | cons _ _ => cases h
          | cons i is ih => intro ds s s' h; cases ds with | nil => cases h | cons d ds => simpa using ih h
        refine ⟨by rw [← r1.length]; exact hl hg, k _ H1 O2 o2 ?_⟩
        refine stp_asg p1 ⟨fun a u h _ => h, by simp, fun a ha => .inl ?_⟩
        rcases h2 a ha with z | z <;> simp [z]
      · exact k.elim
    · exact k.elim
theorem ss_par2 (i j : Nat) {x y : Str} {a b : Expr} {ma : M (Bool × List D)} {px py pt pos : Pos} {kt k2 pt2} (hc : c.calm = true) (hN : c.N.Nodup) (ha : SA c J [a, b] ma) (hni : notPin J i) (hnj : notPin J j) (hij : i ≠ j := by decide)
    (hi : c.N[i]? = some x := by rfl) (hj : c.N[j]? = some y := by rfl) (hx : c.scope.names.lookup x = some .local := by rfl) (hy : c.scope.names.lookup y = some .local := by rfl)
    (hw : ∀ env : Env, env.scope = c.scope → swappedStores [.Tuple [.Name x px, .Name y py] kt pt] (.Tuple [a, b] k2 pt2) env = pure (some [x, y]))
    (hs : ∀ env : Env, env.scope = c.scope → swapsWithSole [.Tuple [.Name x px, .Name y py] kt pt] (.Tuple [a, b] k2 pt2) pos.line env = pure false := by intro _ _; rfl) :
    SS c J (.Assign [.Tuple [.Name x px, .Name y py] kt pt] (.Tuple [a, b] k2 pt2) pos) (sPar ma [i, j]) := by
  obtain ⟨ta, pa, qa⟩ := ha
  refine ⟨fun W => tPar i j (ta W), fun W X hX tk => ps_par (by rw [hX.calm]; exact hc) (by rw [hX.N]; exact hN) (by rw [hX.N]; exact hi) (by rw [hX.N]; exact hj) hij (by rw [hX.scope]; exact hx) (by rw [hX.scope]; exact hy) (pa W X hX tk) (hw _ hX.scope) (hs _ hX.scope), ?_⟩
  intro W E s σ H O F o k
  have h := snd_par qa (is := [i, j]) (by intro l hl; simp at hl; rcases hl with rfl | rfl <;> assumption) W E s σ H O F o k
  have e : (fun (vs : List V) (H1 : Hp) => vs.length = [i, j].length ∧ E.nx (sets [i, j] vs σ) H1) = fun vs H1 => ∃ v w, vs = [v, w] ∧ E.nx ((σ.set i (some v)).set j (some w)) H1 := by
    funext vs H1
    apply propext
    constructor
    · rintro ⟨h1, h2⟩
      match vs, h1 with
      | [v, w], _ => exact ⟨v, w, rfl, h2⟩
    · rintro ⟨v, w, rfl, h2⟩
      exact ⟨rfl, h2⟩
  show ta W σ H fun vs H1 => ∃ v w, vs = [v, w] ∧ E.nx ((σ.set i (some v)).set j (some w)) H1
  rw [← e]
  exact h
theorem ss_par3 (i j l : Nat) {x y z : Str} {a b d : Expr} {ma : M (Bool × List D)} {px py pz pt pos : Pos} {kt k2 pt2} (hc : c.calm = true) (hN : c.N.Nodup) (ha : SA c J [a, b, d] ma) (hni : notPin J i) (hnj : notPin J j) (hnl : notPin J l) (hij : i ≠ j := by decide) (hil : i ≠ l := by decide) (hjl : j ≠ l := by decide)
    (hi : c.N[i]? = some x := by rfl) (hj : c.N[j]? = some y := by rfl) (hl : c.N[l]? = some z := by rfl) (hx : c.scope.names.lookup x = some .local := by rfl) (hy : c.scope.names.lookup y = some .local := by rfl) (hz : c.scope.names.lookup z = some .local := by rfl)
    (hw : ∀ env : Env, env.scope = c.scope → swappedStores [.Tuple [.Name x px, .Name y py, .Name z pz] kt pt] (.Tuple [a, b, d] k2 pt2) env = pure (some [x, y, z]))
    (hs : ∀ env : Env, env.scope = c.scope → swapsWithSole [.Tuple [.Name x px, .Name y py, .Name z pz] kt pt] (.Tuple [a, b, d] k2 pt2) pos.line env = pure false := by intro _ _; rfl) :
    SS c J (.Assign [.Tuple [.Name x px, .Name y py, .Name z pz] kt pt] (.Tuple [a, b, d] k2 pt2) pos) (sPar ma [i, j, l]) := by
  obtain ⟨ta, pa, qa⟩ := ha
  refine ⟨fun W => tPar3 i j l (ta W), fun W X hX tk => ps_par3 (by rw [hX.calm]; exact hc) (by rw [hX.N]; exact hN) (by rw [hX.N]; exact hi) (by rw [hX.N]; exact hj) (by rw [hX.N]; exact hl) hij hil hjl (by rw [hX.scope]; exact hx) (by rw [hX.scope]; exact hy) (by rw [hX.scope]; exact hz) (pa W X hX tk) (hw _ hX.scope) (hs _ hX.scope), ?_⟩
  intro W E s σ H O F o k
  have h := snd_par qa (is := [i, j, l]) (by intro l hl; simp at hl; rcases hl with rfl | rfl | rfl <;> assumption) W E s σ H O F o k
  have e : (fun (vs : List V) (H1 : Hp) => vs.length = [i, j, l].length ∧ E.nx (sets [i, j, l] vs σ) H1) = fun vs H1 => ∃ u v w, vs = [u, v, w] ∧ E.nx (((σ.set i (some u)).set j (some v)).set l (some w)) H1 := by
    funext vs H1
    apply propext
    constructor
    · rintro ⟨h1, h2⟩
      match vs, h1 with
      | [u, v, w], _ => exact ⟨u, v, w, rfl, h2⟩
    · rintro ⟨u, v, w, rfl, h2⟩
      exact ⟨rfl, h2⟩
  show ta W σ H fun vs H1 => ∃ u v w, vs = [u, v, w] ∧ E.nx (((σ.set i (some u)).set j (some v)).set l (some w)) H1
  rw [← e]
  exact h
/-! ### calls by keyword -/
def permL {α : Type} (π : List Nat) (xs : List α) : List α := π.filterMap (xs[·]?)
theorem permL_map {α β : Type} (π : List Nat) (xs : List α) (f : α → β) : permL π (xs.map f) = (permL π xs).map f := by
  unfold permL
  rw [List.map_filterMap]
  congr 1
  funext i
  simp
theorem permL_range {α : Type} : ∀ xs : List α, permL (List.range xs.length) xs = xs := fun xs => by
  unfold permL
  induction xs with
  | nil => rfl
  | cons x xs ih =>
    rw [List.length_cons, List.range_succ_eq_map, List.filterMap_cons]
    simp only [List.getElem?_cons_zero, List.filterMap_map, Function.comp_def, List.getElem?_cons_succ]
    rw [ih]
theorem permL_perm {α : Type} {π : List Nat} {xs : List α} (h : π.Perm (List.range xs.length)) : (permL π xs).Perm xs := by
  have := h.filterMap (xs[·]?)
  have e := permL_range xs
  unfold permL at e ⊢
  rwa [e] at this
theorem Rps.zperm {K : Frag} {H : Hp} {L : List Addr} {zs ws : List (D × V)} (p : zs.Perm ws) : ∀ {T : List Addr}, Rps K H L (zs.map (·.1)) (zs.map (·.2)) T → ∃ T', T'.Perm T ∧ Rps K H L (ws.map (·.1)) (ws.map (·.2)) T' := by
  induction p with
  | nil => exact fun r => ⟨_, .refl _, r⟩
  | cons x p ih =>
    rintro T ⟨v, vs', T1, T2, e, rfl, r1, r2⟩
    obtain ⟨rfl, rfl⟩ := List.cons.inj e
    obtain ⟨T', p', r'⟩ := ih r2
    exact ⟨T1 ++ T', List.Perm.append_left _ p', ⟨_, _, T1, T', rfl, rfl, r1, r'⟩⟩
  | swap x y l =>
    rintro T ⟨v, vs', T1, T2, e, rfl, r1, v2, vs2, T3, T4, e2, rfl, r2, r3⟩
    obtain ⟨rfl, rfl⟩ := List.cons.inj e
    obtain ⟨rfl, rfl⟩ := List.cons.inj e2
    refine ⟨T3 ++ (T1 ++ T4), perm_mid, ⟨_, _, T3, _, rfl, rfl, r2, _, _, T1, T4, rfl, rfl, r1, r3⟩⟩
  | trans _ _ ih1 ih2 =>
    intro T r
    obtain ⟨T1, p1, r1⟩ := ih1 r
    obtain ⟨T2, p2, r2⟩ := ih2 r1
    exact ⟨T2, p2.trans p1, r2⟩
theorem Rps.permL {K : Frag} {H : Hp} {L : List Addr} {ds : List D} {vs : List V} {T : List Addr} {π : List Nat} (r : Rps K H L ds vs T) (h : π.Perm (List.range ds.length)) : ∃ T', T'.Perm T ∧ Rps K H L (VL.permL π ds) (VL.permL π vs) T' := by
  have hl := r.length
  have e1 : (ds.zip vs).map (·.1) = ds := List.map_fst_zip (by omega)
  have e2 : (ds.zip vs).map (·.2) = vs := List.map_snd_zip (by omega)
  have p : (ds.zip vs).Perm (VL.permL π (ds.zip vs)) := (permL_perm (by rw [List.length_zip, ← hl, Nat.min_self]; exact h)).symm
  obtain ⟨T', p', r'⟩ := Rps.zperm p (T := T) (by rw [e1, e2]; exact r)
  rw [← permL_map, ← permL_map, e1, e2] at r'
  exact ⟨T', p', r'⟩
theorem rsl_rps {K : Frag} {H : Hp} {L : List Addr} : ∀ {ds : List D} {vs : List V} {O : List Addr}, RSl K H L (ds.map some) (vs.map some) O → Rps K H L ds vs O
  | [], [], O, r => ⟨rfl, r.2⟩
  | [], _ :: _, O, r => by cases r.1
  | _ :: _, [], O, r => by obtain ⟨_, _, _, _, e, _⟩ := r; cases e
  | d :: ds, v :: vs, O, r => by
    obtain ⟨x, σ', O1, O2, e, rfl, ⟨u, rfl, r1⟩, r2⟩ := r
    obtain ⟨e1, rfl⟩ := List.cons.inj e
    cases e1
    exact ⟨_, _, O1, O2, rfl, rfl, r1, rsl_rps r2⟩
theorem spV_perm {K : Frag} {mg : Str → Option Value} {n : Nat} {fm : List D → FR} {π : List Nat} {vs : List V} {H : Hp} {Q : VK} {E : XK} (hp : π.Perm (List.range n)) (h : spV K mg n [] (fun ds => fm (permL π ds)) vs H Q E) : spV K mg n [] fm (permL π vs) H Q E := by
  obtain ⟨ds, O, F, hl, o, q⟩ := h
  subst hl
  obtain ⟨O', p, r⟩ := (rsl_rps o.rep).permL hp
  have mem : ∀ a, a ∈ O' ↔ a ∈ O := fun a => p.mem_iff
  have stp : ∀ {H' : Hp} {T O2 : List Addr}, Stp true H H' O' T O2 → Stp true H H' O T O2 := fun st => ⟨fun a u h n => st.keep a u h fun e m => n e ((mem a).mp m), fun a h => (st.newT a h).imp (fun z => ⟨z.1, (mem a).mp z.2⟩) fun z => z, fun a h => (st.newO a h).imp (fun z => (mem a).mp z) fun z => z⟩
  refine ⟨permL π ds, O', F, (permL_perm hp).length_eq, ⟨?_, (p.append_right F).nodup_iff.mpr o.nd, o.fr, by simp⟩, ?_⟩
  · exact RSl.of_Rps (r.anti fun a ha => by
      rcases List.mem_append.mp ha with z | z
      · exact List.mem_append_left _ ((mem a).mp z)
      · exact List.mem_append_right _ z)
  · cases hf : fm (permL π ds) with
    | bad => simp only [hf] at q; exact q
    | ok d io =>
      simp only [hf] at q
      exact fun v H' T O2 r2 o2 p2 => q v H' T O2 r2 o2 (stp p2)
    | exc x io =>
      simp only [hf] at q
      exact fun cls dx H' O2 r2 o2 p2 => q cls dx H' O2 r2 o2 (stp p2)
def SK (c : Ctx) (J : List (Nat × V)) (kws : List Keyword) (m : M (Bool × List D)) : Prop := ∃ ta : WX → TA, (∀ W X, InC c X → Takes X W → PK X kws (ta W)) ∧ SndA c J ta m
theorem sk_nil : SK c J [] aNil := ⟨fun _ => tNil, fun _ _ _ _ => pk_nil, snd_nil⟩
theorem sk_cons {nm : Option Str} {kp : Pos} {e : Expr} {kws : List Keyword} {ma : M Val} {mas : M (Bool × List D)} (ha : SE c J e ma) (has : SK c J kws mas) : SK c J (⟨nm, e, kp⟩ :: kws) (aCons ma mas) := by
  obtain ⟨ta, pa, qa⟩ := ha
  obtain ⟨tas, pas, qas⟩ := has
  exact ⟨_, fun W X hX tk => pk_cons (pa W X hX tk) (pas W X hX tk), snd_cons qa qas⟩
/-- how keywords bind -/
def KB (fd : FuncData) (ps ks : List Str) (π : List Nat) : Prop := ∀ (s : Shared) (ws : List Value), ws.length = ps.length → BindsTo s fd ⟨[], ks.zip ws⟩ (ps.zip (permL π ws))
structure CalK (c : Ctx) (x : Str) (ps ks : List Str) (π : List Nat) (fm : List D → FR) : Prop where
  ok : ∃ (f : Addr) (fd : FuncData) (j : Nat), FnG c.P c.w c.K c.mg c.base j f fd ps (spV c.K c.mg ps.length [] fm) ∧ j ≤ c.k ∧ c.mg x = some (.ref f) ∧ PySem.W.keepIn c.K (.ref f) = true ∧ KB fd ps ks π
  pm : π.Perm (List.range ps.length)
theorem se_callK0 {x : Str} {p pos : Pos} {kws : List Keyword} {ps ks : List Str} {π : List Nat} {fm : List D → FR} {ma : M (Bool × List D)} (C : CalK c x ps ks π fm) (hg : c.scope.names.lookup x = some .globalImplicit) (ha : SK c J kws ma) (hn : ∀ s b ds s' e, ma s = .ok (b, ds) s' e → ds.length = ps.length)
    (hdb : (x == ("__debug__" : Str)) = false := by decide) (hall : ∀ env : Env, (backToKw pos (keywordEach kws env)).all (·.1.isSome) = true := by intro _; rfl) (hks : ∀ env : Env, (backToKw pos (keywordEach kws env)).filterMap (·.1) = ks := by intro _; rfl)
    (hpl : ∀ env : Env, ((backTo pos (starEach [] env)).any (·.1) || (backToKw pos (keywordEach kws env)).any (·.1.isNone)) = false := by intro _; rfl) :
    SE c J (.Call (.Name x p) [] kws pos) (xCall (fun ds => fm (permL π ds)) ma) := by
  obtain ⟨ta, pa, qa⟩ := ha
  refine ⟨fun W => fun σ H Q => ta W σ H fun vs H1 => spV c.K c.mg ps.length [] (fun ds => fm (permL π ds)) vs H1 Q (WE W σ), fun W X hX tk => ?_, snd_call hn qa⟩
  obtain ⟨f, fd, j, F, hj, h1, h2, h3⟩ := C.ok
  have F' : FnG X.prog X.w X.K X.mg X.base j f fd ps (spV c.K c.mg ps.length [] fm) := by
    rw [hX.prog, hX.w, hX.K, hX.mg, hX.base]; exact F
  refine ⟨fun pins s σ H Q I h => wpAny_Call_Name_kw (ld_glob I (hX.gl hg) (by rw [hX.mg]; exact h1) ?_ hdb)⟩
  refine PySem.W.callWith_KW0 (h₀ := X.base) I.ok.mod.kin (by rw [hX.K]; exact h2) (hall _) (thn ((pa W X hX tk).run pos pins s σ H _ I h) fun ws s1 ⟨zs, H1, I1, rz, q⟩ => ⟨I1.kIn, ?_⟩) (hpl _)
  rw [hks]
  have hl : ws.length = ps.length := by
    obtain ⟨ds, O, F, hd, o, _⟩ := q
    have := o.rep.length
    rw [← rz.length]
    simpa [hd] using this.symm
  refine wpAny_call ?_
  have rv : Vals (permL π zs) (permL π ws) := by
    have : ∀ π : List Nat, Vals (permL π zs) (permL π ws) := by
      intro π
      unfold permL
      induction π with
      | nil => exact .nil
      | cons i π ih =>
        rw [List.filterMap_cons, List.filterMap_cons]
        by_cases hi : i < zs.length
        · obtain ⟨u, hu, ru⟩ := rz.get (List.getElem?_eq_getElem hi)
          rw [List.getElem?_eq_getElem hi, hu]
          exact .cons ru ih
        · rw [List.getElem?_eq_none_iff.mpr (by omega), List.getElem?_eq_none_iff.mpr (by rw [← rz.length]; omega)]
          exact ih
    exact this π
  refine codeAny_mono (run_fnG tk F' (hX.room.mono hj) hX.gd (h3 s1 ws hl) I1 rv (spV_perm C.pm q)) fun res s2 hq => ?_
  match res, hq with
  | .error e, hq => exact hq
  | .ok (.ret u), hq => exact hq
  | .ok .next, hq => exact hq.elim
  | .ok .brk, hq => exact hq.elim
  | .ok .cont, hq => exact hq.elim
end
end VL
/-! VL 16: dicts of keys, loops that take their items -/
namespace VL
open PySem PySem.Spec L2
def keyD : D → Option Key
  | .int i => some (.inl i)
  | .str x => some (.inr x)
  | _ => none
theorem keyD_v {K : Frag} {H : Hp} {L T : List Addr} {d : D} {v : V} {k : Key} (h : keyD d = some k) (r : Rp K H L d v T) : v = kV k := by
  cases d <;> cases h
  · exact r.1
  · exact r.1
def getKD : List Key → List D → Key → Option D
  | k' :: ks, d :: ds, k => if k' = k then some d else getKD ks ds k
  | _, _, _ => none
theorem getKD_v {K : Frag} {H : Hp} {L : List Addr} {k : Key} : ∀ {ks : List Key} {ds : List D} {vs : List V} {T : List Addr}, ks.length = vs.length → Rps K H L ds vs T →
    (∀ d, getKD ks ds k = some d → ∃ v T1, valV (ks.zip vs) k = some v ∧ Rp K H L d v T1 ∧ T1.Sublist T) ∧ (getKD ks ds k = none → valV (ks.zip vs) k = none ∧ k ∉ ks)
  | [], ds, vs, T, hl, r => ⟨fun d h => by simp [getKD] at h, fun _ => ⟨by simp [valV], by simp⟩⟩
  | k' :: ks, [], vs, T, hl, r => by
    obtain ⟨rfl, _⟩ := r
    simp at hl
  | k' :: ks, d :: ds, vs, T, hl, r => by
    obtain ⟨v, vs', T1, T2, rfl, rfl, r1, r2⟩ := r
    have ih := getKD_v (k := k) (ks := ks) (by simpa using hl) r2
    by_cases e : k' = k
    · refine ⟨fun d' h => ?_, fun h => ?_⟩
      · simp only [getKD, if_pos e] at h
        cases h
        exact ⟨v, T1, by rw [List.zip_cons_cons, valV_pos e], r1, List.sublist_append_left _ _⟩
      · simp only [getKD, if_pos e] at h
        cases h
    · refine ⟨fun d' h => ?_, fun h => ?_⟩
      · simp only [getKD, if_neg e] at h
        obtain ⟨w, U, h1, h2, h3⟩ := ih.1 d' h
        exact ⟨w, U, by rw [List.zip_cons_cons, valV_neg e]; exact h1, h2, h3.trans (List.sublist_append_right _ _)⟩
      · simp only [getKD, if_neg e] at h
        obtain ⟨h1, h2⟩ := ih.2 h
        exact ⟨by rw [List.zip_cons_cons, valV_neg e]; exact h1, by simp [h2, Ne.symm e]⟩
/-- d.setdefault(k, x), values that own nothing -/
def mSetd : D → List D → Option (D × D)
  | .dK true ks ds, [y, z] => if fits (ks.length + 1) = true then (keyD y).bind fun k => (match getKD ks ds k with
    | some d0 => if noOwn d0 = true then some (.dK true ks ds, d0) else none
    | none => if noOwn z = true then some (.dK true (ks ++ [k]) (ds ++ [z]), z) else none) else none
  | _, _ => none
def rSetd : V → List V → Hp → VK → Prop := fun x vs H Q => match x, vs with
  | .ref a, [y, z] => ∃ (kvs : List (Key × V)) (k : Key), H a = some (.dK kvs) ∧ y = kV k ∧ kvs.length < sizeLine ∧
      (∀ v, valV kvs k = some v → Q v H) ∧ (valV kvs k = none → Q z (upd H a (.dK (putK kvs k z))))
  | _, _ => False
theorem putK_new {ks : List Key} {vs : List V} {k : Key} {z : V} (h : k ∉ ks) (hl : ks.length = vs.length) : putK (ks.zip vs) k z = (ks ++ [k]).zip (vs ++ [z]) := by
  unfold putK
  rw [if_neg]
  · rw [List.zip_append hl]
    rfl
  · intro ha
    obtain ⟨x, hx, he⟩ := List.any_eq_true.mp ha
    have := (List.of_mem_zip (a := x.1) (b := x.2) hx).1
    rw [of_decide_eq_true he] at this
    exact h this
theorem mu_setd {K : Frag} : OpMu K rSetd mSetd := by
  intro H A T R dd x ds0 vs0 d' e Q r rs nd own hf q
  unfold mSetd at hf
  split at hf
  · rename_i ks ds y z
    split at hf
    · rename_i hz
      cases hk : keyD y with
      | none => rw [hk] at hf; cases hf
      | some k =>
        rw [hk] at hf
        obtain ⟨a, vs, T', rfl, hl, h1, rfl, h2⟩ := r
        obtain ⟨u, w, T1, T2, rfl, rfl, r1, r2⟩ := rps2 rs
        have hlz : (ks.zip vs).length < sizeLine := by
          rw [List.length_zip, ← hl, Nat.min_self]; exact fits_lt hz
        have g := getKD_v (k := k) hl h2
        have own' : OwnO (H a) := own a (by simp)
        have nd' : (a :: (T' ++ (T1 ++ T2 ++ R))).Nodup := by simpa using nd
        have hf : (match getKD ks ds k with
          | some d0 => if noOwn d0 = true then some (D.dK true ks ds, d0) else none
          | none => if noOwn z = true then some (.dK true (ks ++ [k]) (ds ++ [z]), z) else none) = some (d', e) := hf
        cases hg : getKD ks ds k with
        | some d0 =>
          rw [hg] at hf
          simp only [] at hf
          split at hf
          · rename_i hn
            cases hf
            obtain ⟨v, U, g1, g2, g3⟩ := g.1 _ hg
            have e0 := g2.free hn
            subst e0
            have hin : ∀ b ∈ a :: T' ++ ([] ++ R), b ∈ a :: T' ++ (T1 ++ T2 ++ R) := fun b hb => by
              simp only [List.cons_append, List.mem_cons, List.mem_append, List.not_mem_nil, false_or] at hb ⊢
              rcases hb with z | z | z <;> simp [z]
            refine ⟨ks.zip vs, k, h1, keyD_v hk r1, hlz, fun v' hv => ?_, fun hn' => by rw [g1] at hn'; cases hn'⟩
            rw [g1] at hv
            cases hv
            refine q v H (a :: T') [] ⟨a, vs, T', rfl, hl, h1, rfl, h2.anti hin⟩ (g2.anti hin) ?_ (fun b u e _ => e) fun b hb => .inl (by
              have : b ∈ a :: T' := by simpa using hb
              exact List.mem_append_left _ this)
            have sub : (a :: T' ++ ([] ++ R)).Sublist (a :: T' ++ (T1 ++ T2 ++ R)) := by
              refine List.Sublist.append (List.Sublist.refl _) ?_
              simpa using List.sublist_append_right (T1 ++ T2) R
            exact sub.nodup nd
          · cases hf
        | none =>
          rw [hg] at hf
          simp only [] at hf
          split at hf
          · rename_i hn
            cases hf
            have e0 := r2.free hn
            subst e0
            obtain ⟨g1, g2⟩ := g.2 hg
            have hT1 : T1 = [] := by
              cases y <;> cases hk <;> exact r1.2
            subst hT1
            refine ⟨ks.zip vs, k, h1, keyD_v hk r1, hlz, fun v' hv => (by rw [g1] at hv; cases hv), fun _ => ?_⟩
            rw [putK_new g2 hl]
            have hin : ∀ b ∈ a :: T' ++ ([] ++ R), b ∈ a :: T' ++ ([] ++ [] ++ R) := fun b hb => by simpa using hb
            have mv : Mv H (upd H a (.dK ((ks ++ [k]).zip (vs ++ [w])))) [a] (a :: T' ++ ([] ++ [] ++ R)) (a :: T' ++ ([] ++ R)) := mv_upd own' (by simp) hin
            have nT : ∀ b ∈ T', b ∉ [a] := fun b hb z => by
              have : b = a := by simpa using z
              subst this
              exact (List.nodup_cons.mp nd').1 (by simp [hb])
            refine q w _ (a :: T') [] ⟨a, vs ++ [w], T', rfl, by simp [hl], upd_at, rfl, ?_⟩ (r2.mv mv (by simp)) (by simpa using nd) (fun b u e n => by rw [upd_ne (fun z => n (by simp [z]))]; exact e) fun b hb => .inl (by simpa using hb)
            have := (h2.mv mv nT).append (es := [_]) (ws := [w]) (U := []) ⟨w, [], [], [], rfl, rfl, r2.mv mv (by simp), rfl, rfl⟩
            simpa using this
          · cases hf
    · cases hf
  · cases hf
def ownK : D → Bool
  | .dK true _ _ => true
  | _ => false
section
variable {c : Ctx} {J : List (Nat × V)}
theorem se_setd {i : Nat} {a e f : Expr} {pos apos : Pos} {mp : M (List Nat)} {me mf : M Val} (hp : SPl c J i a mp) (he : SE c J e me) (hf : SE c J f mf) (m : ∀ X : Cx, M2 X a "setdefault" apos e f pos := by intro _; exact ⟨rfl, rfl, rfl, rfl⟩) :
    SE c J (.Call (.Attribute a "setdefault" apos) [e, f] [] pos) (eMuG ownK i mp (aCons me (aCons mf aNil)) mSetd) := by
  obtain ⟨tp, pp, qp⟩ := hp
  obtain ⟨te, pe, qe⟩ := he
  obtain ⟨tf, pf, qf⟩ := hf
  refine ⟨_, fun W X hX tk => pe_dsetd (pp W X hX tk) (pe W X hX tk) (pf W X hX tk) (m X), snd_muG (KK := fun W σ Q x H1 => ∃ a, x = .ref a ∧ IsD H1 a ∧ te W σ H1 fun y H2 => tf W σ H2 fun z H3 => ∃ (kvs : List (Key × V)) (k : Key), H3 a = some (.dK kvs) ∧ y = kV k ∧ kvs.length < sizeLine ∧
    (∀ v, valV kvs k = some v → Q v H3) ∧ (valV kvs k = none → Q z (upd H3 a (.dK (putK kvs k z))))) qp (snd_cons qe (snd_cons qf snd_nil)) mu_setd fun W σ Q x H1 L A z r h k => ?_⟩
  unfold ownK at h
  split at h
  · obtain ⟨b, vs, T', rfl, _, h1, _⟩ := r
    exact ⟨b, rfl, .inl ⟨_, .inl h1⟩, k⟩
  · cases h
/-- {} -/
def xDNew : M Val := fun s => .ok (true, .dK true [] []) s false
theorem se_dnew {pos : Pos} : SE c J (.Dict [] [] pos) xDNew := by
  refine ⟨fun _ => tDNewK, fun W X hX _ => pe_dnewK, fun W s σ H O F Q o q p hp => ?_⟩
  have np : p ∉ O ++ F := fun z => by
    obtain ⟨u, e⟩ := OwnO.some (o.own p z)
    rw [hp] at e; cases e
  have ext := upd_ext (o := .dK []) hp
  refine q (.ref p) _ [p] O ⟨p, [], [], rfl, rfl, upd_at, rfl, rfl, rfl⟩ ?_ ⟨fun a u h _ => ext a u h, fun a ha => .inr ?_, fun a h => .inl h⟩
  rotate_left
  · have : a = p := by simpa using ha
    rw [this]; exact hp
  refine ⟨o.rep.mv (M := []) ⟨fun a u h _ => ext a u h, by simp, by simp, fun a ha => ?_⟩ (by simp), ?_, fun a ha => ?_, o.pin⟩
  · simp only [List.mem_append, List.mem_singleton] at ha ⊢
    rcases ha with z | z | z
    · exact .inl (.inl z)
    · exact .inr (by rw [z]; exact hp)
    · exact .inl (.inr z)
  · refine nd_comm ?_
    exact List.nodup_cons.mpr ⟨np, o.nd⟩
  · rcases List.mem_append.mp ha with z | z
    · have : a = p := by simpa using z
      rw [this, upd_at]; trivial
    · have h := o.fr a z
      obtain ⟨u, e⟩ := OwnO.some h
      rw [ext a u e]
      rw [e] at h
      exact h
/-! ### loops that take their items -/
def itemsD : D → Option (List D)
  | .lst _ xs => some xs
  | .tup xs => some xs
  | _ => none
def loopN (g : D → Sl → Option Sl) (body : MS) (dead : List Nat) : List D → MS
  | [], s => .nx s
  | d :: ds, s => match g d s with
    | none => .bad
    | some s1 => (match body s1 with
      | .nx s2 => loopN g body dead ds (kill dead s2)
      | _ => .bad)
def sForN (m : M Val) (g : D → Sl → Option Sl) (body : MS) (dead : List Nat) : MS := fun s => match m s with
  | .ok (b, d) s1 _ => if (b || noFz d) = true then (match itemsD d with
    | some ds => loopN g body dead ds (kill dead s1)
    | none => .bad) else .bad
  | .exc x s1 => .exc x s1
  | .bad => .bad
/-- a frame of which only a part is kept -/
theorem Own.less {K : Frag} {H : Hp} {s : Sl} {σ : St} {O F F' : List Addr} (o : Own K J H s σ O F) (h : F'.Sublist F) : Own K J H s σ O F' :=
  ⟨o.rep.anti fun a ha => by
    rcases List.mem_append.mp ha with z | z
    · exact List.mem_append_left _ z
    · exact List.mem_append_right _ (h.subset z), (List.Sublist.append (List.Sublist.refl O) h).nodup o.nd, fun a ha => o.fr a (h.subset ha), o.pin⟩
theorem loopN_run {W : WX} {E : Ends} {Jt : It} {vs : List V} {S : Hp → List Addr → Prop} {B F : List Addr} {tg : WX → TG} {ws : List Nat} {tb : WX → TS} {g : D → Sl → Option Sl} {body : MS} (dead : List Nat) (qg : SndG c J ws tg g) (qb : SndS c J tb body)
    (hw : L2.Walk Jt vs.length (fun H => ∃ L, S H L) (YAt vs)) (hS : ∀ {H H' : Hp} {M L L' : List Addr}, S H L → Mv H H' M L L' → (∀ b ∈ B, b ∉ M) → S H' L')
    {ds : List D} {s : Sl} {σ : St} {H H0 : Hp} {O O0 T : List Addr} (o : Own c.K J H s σ O (T ++ (B ++ F))) (r : Rps c.K H (O ++ (T ++ (B ++ F))) ds vs T) (hs : S H (O ++ (T ++ (B ++ F)))) (p : Stp true H0 H O0 T O) (k : PostS c J W E H0 O0 F (loopN g body dead ds s)) :
    ∃ Wn : Nat → Nat → St → Hp → Prop, (∃ m, Wn 0 m σ H) ∧ ∀ i m σ H, Wn i m σ H →
      (Jt.stop i H ∧ E.nx σ H) ∨ (Jt.go i H ∧ ∃ N : St → Hp → Prop, (∀ σ' H', N σ' H' → ∃ m', m' < m ∧ Wn (i + 1) m' σ' H') ∧ ∀ x H', Jt.yld i H x H' → tg W x σ H' fun σ2 H2 => tb W { E with nx := N, ct := N, bk := E.nx } σ2 H2) := by
  refine for_it hw (fun i σ H => ∃ s O T, Own c.K J H s σ O (T ++ (B ++ F)) ∧ Rps c.K H (O ++ (T ++ (B ++ F))) (ds.drop i) (vs.drop i) T ∧ S H (O ++ (T ++ (B ++ F))) ∧ Stp true H0 H O0 T O ∧ PostS c J W E H0 O0 F (loopN g body dead (ds.drop i) s)) ⟨s, O, T, o, by simpa using r, hs, p, by simpa using k⟩ (fun i σ H _ ⟨s, O, T, _, _, h, _⟩ => ⟨_, h⟩) ?_ ?_
  · rintro i x σ2 H2 H3 hi ⟨s2, O2, T2, o2, r2, hS2, p2, k2⟩ ⟨rfl, hx⟩
    have hl : ds.length = vs.length := r.length
    have hi' : i < ds.length := by rw [hl]; exact hi
    have hdr : ds.drop i = ds[i] :: ds.drop (i + 1) := List.drop_eq_getElem_cons hi'
    have hvr : vs.drop i = x :: vs.drop (i + 1) := by
      rw [List.drop_eq_getElem_cons hi]
      congr 1
      exact (List.getElem?_eq_some_iff.mp hx).2
    rw [hdr, hvr] at r2
    rw [hdr] at k2
    obtain ⟨x', vs', Ta, Tb, e, rfl, ra, rb⟩ := r2
    obtain ⟨rfl, rfl⟩ := List.cons.inj e
    unfold loopN at k2
    cases hg : g ds[i] s2 with
    | none => rw [hg] at k2; exact k2.elim
    | some s3 =>
      rw [hg] at k2
      simp only [] at k2
      have eT : (Ta ++ Tb ++ (B ++ F)) = Ta ++ (Tb ++ (B ++ F)) := List.append_assoc _ _ _
      rw [eT] at o2
      refine qg W s2 s3 σ2 H3 O2 Ta (Tb ++ (B ++ F)) ds[i] x _ o2 (ra.anti fun a => by simp only [List.mem_append]; rintro (z | z | z | z | z) <;> simp [z]) hg fun σ4 H4 O4 o4 st4 _ => ?_
      refine qb W _ s3 σ4 H4 O4 (Tb ++ (B ++ F)) o4 ?_
      cases hb : body s3 with
      | nx s5 =>
        rw [hb] at k2
        simp only [] at k2
        intro σ5 H5 O5 o5 st5
        obtain ⟨O6, g6, o6⟩ := o5.kill dead
        have st6 : Stp true H4 H5 O4 [] O6 := st5.sub (by simp) g6
        have st : Stp true H3 H5 (Ta ++ O2) [] O6 := by simpa using st4.trans st6
        have own3 := o2.own
        have mem3 : ∀ a ∈ Ta ++ O2, a ∈ O2 ++ (Ta ++ (Tb ++ (B ++ F))) := fun a ha => by
          rcases List.mem_append.mp ha with z | z <;> simp [z]
        have mv : Mv H3 H5 (Ta ++ O2) (O2 ++ (Ta ++ Tb ++ (B ++ F))) (O6 ++ (Tb ++ (B ++ F))) := ⟨fun a u h n => st.keep a u h fun _ => n, fun a ha => own3 a (mem3 a ha), fun a ha => by rw [eT]; exact mem3 a ha, fun a ha => by
          rcases List.mem_append.mp ha with z | z
          · rcases st.newO a z with y | y
            · exact .inl (by rw [eT]; exact mem3 a y)
            · exact .inr y
          · exact .inl (by rw [eT]; simp only [List.mem_append] at z ⊢; rcases z with y | y | y <;> simp [y])⟩
        have nd2 := o2.nd
        have nTb : ∀ a ∈ Tb ++ (B ++ F), a ∉ Ta ++ O2 := fun a ha z => by
          rcases List.mem_append.mp z with y | y
          · exact (List.nodup_append.mp (List.nodup_append.mp nd2).2.1).2.2 a y a ha rfl
          · exact (List.nodup_append.mp nd2).2.2 a y a (List.mem_append_right _ ha) rfl
        have base : ∀ a, a ∈ Ta ++ O2 → a ∈ O0 ∨ H0 a = none := fun a ha => by
          rcases List.mem_append.mp ha with z | z
          · exact (p2.newT a (List.mem_append_left _ z)).imp (fun y => y.2) fun y => y
          · exact p2.newO a z
        refine ⟨_, O6, Tb, o6, rb.mv mv fun a ha => nTb a (List.mem_append_left _ ha), hS hS2 mv fun b hb => nTb b (by simp [hb]), ⟨fun a u h n => st.keep a u (p2.keep a u h n) fun _ z => ?_, fun a ha => p2.newT a (List.mem_append_right _ ha), fun a ha => ?_⟩, k2⟩
        · rcases base a z with y | y
          · exact n rfl y
          · rw [h] at y; cases y
        · rcases st.newO a ha with y | y
          · exact base a y
          · by_cases m : a ∈ O0
            · exact .inl m
            · exact .inr (p2.free y m)
      | ct s5 => rw [hb] at k2; exact k2.elim
      | bk s5 => rw [hb] at k2; exact k2.elim
      | rt d s5 => rw [hb] at k2; exact k2.elim
      | exc x s5 => rw [hb] at k2; exact k2.elim
      | bad => rw [hb] at k2; exact k2.elim
  · rintro σ2 H2 ⟨s2, O2, T2, o2, r2, hS2, p2, k2⟩
    rw [← r.length, List.drop_length] at k2
    exact k2 σ2 H2 O2 (o2.drop).drop (p2.sub (by simp) fun _ z => z)
theorem snd_forN {t : WX → TE} {tg : WX → TG} {ws : List Nat} {tb : WX → TS} {m : M Val} {g : D → Sl → Option Sl} {body : MS} (q : SndE c J t m) (qg : SndG c J ws tg g) (qb : SndS c J tb body) (dead : List Nat) : SndS c J (fun W => tFor (wSeq c.K (t W)) (tg W) (tb W)) (sForN m g body dead) := by
  intro W E s σ H O F o k
  refine q W s σ H O F _ o ?_
  unfold sForN at k
  cases h1 : m s with
  | bad => rw [h1] at k; exact k
  | exc x s1 => rw [h1] at k; exact XP.stmt k
  | ok bd s1 e1 =>
    obtain ⟨b, d⟩ := bd
    rw [h1] at k
    intro v H1 T1 O1 r1 o1 p1
    simp only [] at k
    split at k
    · rename_i hb
      have r := strict_of hb r1
      obtain ⟨O2, g2, o2⟩ := o1.kill dead
      have p2 := (p1.sub (T' := T1) (fun _ z => z) g2).mono (e' := true) fun _ => rfl
      have mem : ∀ {A B : List Addr}, (∀ a ∈ A, a ∈ B) → ∀ a ∈ O2 ++ A, a ∈ O1 ++ B := fun h a ha => by
        rcases List.mem_append.mp ha with z | z
        · exact List.mem_append_left _ (g2 a z)
        · exact List.mem_append_right _ (h a z)
      split at k
      · rename_i ds hi
        cases d with
        | lst ob xs =>
          cases hi
          cases ob with
          | true =>
            obtain ⟨a, vs, T', rfl, h2, rfl, h3⟩ := r
            have o2' : Own c.K J H1 (kill dead s1) σ O2 (T' ++ ([a] ++ F)) := by
              have pm : (a :: T' ++ F).Perm (T' ++ ([a] ++ F)) := by
                simpa using (List.perm_middle (a := a) (l₁ := T') (l₂ := F)).symm
              refine ⟨o2.rep.anti fun b hb => ?_, (List.Perm.append_left O2 pm).nodup_iff.mp o2.nd, fun b hb => o2.fr b (pm.symm.subset hb), o2.pin⟩
              rcases List.mem_append.mp hb with z | z
              · exact List.mem_append_left _ z
              · exact List.mem_append_right _ (pm.symm.subset z)
            refine .inl ⟨a, rfl, ⟨vs, SqL.of h2⟩, ?_⟩
            refine loopN_run (vs := vs) (S := fun H _ => H a = some (.lst vs)) (B := [a]) dead qg qb (walk_list.mono (fun H ⟨L, h⟩ => SqL.of h) fun _ _ _ _ _ _ y => y) (fun h m n => m.keep a _ h (n a (by simp))) o2' (h3.anti fun b hb => ?_) h2 (p2.sub (fun b hb => by simp [hb]) fun _ z => z) k
            simp only [List.mem_append, List.mem_cons, List.not_mem_nil, or_false, List.cons_append] at hb ⊢
            rcases hb with z | z | z | z
            · simp [g2 b z]
            · simp [z]
            · simp [z]
            · simp at z; simp [z]
          | false =>
            obtain ⟨a, vs, rfl, h2, rfl, h3⟩ := r
            refine .inl ⟨a, rfl, ⟨vs, h2.sq⟩, ?_⟩
            refine loopN_run (vs := vs) (T := []) (S := fun H L => FzL H L a vs) (B := []) dead qg qb (walk_list.mono (fun H ⟨L, h⟩ => h.sq) fun _ _ _ _ _ _ y => y) (fun h m n => m.fzl h) (by simpa using o2) (h3.anti fun b hb => ?_) ⟨h2.1, fun z => h2.2 ?_⟩ p2 k
            · simp only [List.mem_append, List.not_mem_nil, false_or] at hb ⊢
              exact hb.imp (g2 b) fun z => z
            · simp only [List.mem_append, List.not_mem_nil, false_or] at z ⊢
              exact z.imp (g2 a) fun z => z
        | tup xs =>
          cases hi
          obtain ⟨a, vs, rfl, h2, h3⟩ := r
          refine .inr (.inl ⟨a, rfl, ⟨vs, h2⟩, ?_⟩)
          refine loopN_run (vs := vs) (T := T1) (S := fun H _ => SqT c.K H a vs) (B := []) dead qg qb (walk_tup.mono (fun H ⟨L, h⟩ => h) fun _ _ _ _ _ _ y => y) (fun h m n => m.tup h) (by simpa using o2) (h3.anti fun b hb => ?_) h2 p2 k
          simp only [List.mem_append, List.not_mem_nil, false_or] at hb ⊢
          rcases hb with z | z | z
          · exact .inr (.inl (g2 b z))
          · exact .inl z
          · exact .inr (.inr z)
        | _ => cases hi
      · exact k.elim
    · exact k.elim
theorem ss_forN {tg iter : Expr} {body : List Stmt} {pos : Pos} {ws : List Nat} {m : M Val} {g : D → Sl → Option Sl} {mb : MS} (dead : List Nat) (ht : c.top = true) (hc : c.calm = true) (hi : SE c J iter m) (hg : SG c J ws tg g) (hb : SSs c J body mb)
    (hs : ∀ env x, foldedSetIterable iter env x = pure x := by intro _ _; rfl) : SS c J (.For tg iter body [] pos) (sForN m g mb dead) := by
  obtain ⟨te, pe, qe⟩ := hi
  obtain ⟨t, pt, qt⟩ := hg
  obtain ⟨tb, pb, qb⟩ := hb
  exact ⟨_, fun W X hX tk => ps_for (hX.top ht).2.2 (by rw [hX.calm]; exact hc) (show PI X tg iter (wSeq c.K (te W)) by rw [← hX.K]; exact pi_seq (pe W X hX tk)) (pt W X hX tk) (pb W X hX tk) (hs _), snd_forN qe qt qb dead⟩
end
end VL
/-! VL 17: callees by name, list.index -/
namespace VL
open PySem PySem.Spec L2
theorem lenA_nil : ∀ s b ds s' e, aNil s = .ok (b, ds) s' e → ds.length = 0 := fun s b ds s' e h => by cases h; rfl
theorem lenA_cons {ma : M Val} {mas : M (Bool × List D)} {n : Nat} (h : ∀ s b ds s' e, mas s = .ok (b, ds) s' e → ds.length = n) : ∀ s b ds s' e, aCons ma mas s = .ok (b, ds) s' e → ds.length = n + 1 := fun s b ds s' e k => by
  unfold aCons at k
  cases h1 : ma s with
  | bad => rw [h1] at k; cases k
  | exc x s1 => rw [h1] at k; cases k
  | ok bd s1 e1 =>
    rw [h1] at k
    simp only [] at k
    cases h2 : mas s1 with
    | bad => rw [h2] at k; cases k
    | exc x s2 => rw [h2] at k; cases k
    | ok bds s2 e2 =>
      rw [h2] at k
      simp only [] at k
      split at k
      · cases k
        simpa using h s1 bds.1 bds.2 _ _ (by rw [h2])
      · cases k
theorem lenB_nil : ∀ s as s' e, bNil s = .ok as s' e → as.length = 0 := fun s as s' e h => by cases h; rfl
theorem lenB_vl {ma : M Val} {mas : M (List AD)} {n : Nat} (h : ∀ s as s' e, mas s = .ok as s' e → as.length = n) : ∀ s as s' e, bVl ma mas s = .ok as s' e → as.length = n + 1 := fun s as s' e k => by
  unfold bVl at k
  cases h1 : ma s with
  | bad => rw [h1] at k; cases k
  | exc x s1 => rw [h1] at k; cases k
  | ok bd s1 e1 =>
    rw [h1] at k
    simp only [] at k
    split at k
    · cases h2 : mas s1 with
      | bad => rw [h2] at k; cases k
      | exc x s2 => rw [h2] at k; cases k
      | ok as2 s2 e2 =>
        rw [h2] at k
        cases k
        simpa using h s1 as2 _ _ h2
    · cases k
theorem lenB_pl {i : Nat} {mas : M (List AD)} {n : Nat} (h : ∀ s as s' e, mas s = .ok as s' e → as.length = n) : ∀ s as s' e, bPl i mas s = .ok as s' e → as.length = n + 1 := fun s as s' e k => by
  unfold bPl at k
  split at k
  · cases h2 : mas s with
    | bad => rw [h2] at k; cases k
    | exc x s2 => rw [h2] at k; cases k
    | ok as2 s2 e2 =>
      rw [h2] at k
      cases k
      simpa using h s as2 _ _ h2
  · cases k
/-- a def by name, its function object, its promise -/
def CalX (P : Program) (w : World) (K : Frag) (mg : Str → Option Value) (base : Heap) (j : Nat) (x : Str) (ps : List Str) (mask : List Nat) (fm : List D → FR) (args : Arguments) (body : List Stmt) (scope : Scope) : Prop :=
  ∃ f fd, FunD K x x args body scope [] [] f fd ∧ FnG P w K mg base j f fd ps (spV K mg ps.length mask fm) ∧ mg x = some (.ref f) ∧ Binds K fd ps []
theorem CalX.cal {c : Ctx} {j : Nat} {x : Str} {ps : List Str} {mask : List Nat} {fm : List D → FR} {args : Arguments} {body : List Stmt} {scope : Scope} (C : CalX c.P c.w c.K c.mg c.base j x ps mask fm args body scope) (hj : j ≤ c.k) : Cal c x ps mask fm := by
  obtain ⟨f, fd, F, G, hm, hb⟩ := C
  exact ⟨f, fd, j, G, hj, hm, F.kp, hb⟩
theorem CalX.calK {c : Ctx} {j : Nat} {x : Str} {ps ks : List Str} {π : List Nat} {fm : List D → FR} {args : Arguments} {body : List Stmt} {scope : Scope} (C : CalX c.P c.w c.K c.mg c.base j x ps [] fm args body scope) (hj : j ≤ c.k)
    (kb : ∀ fd f, FunD c.K x x args body scope [] [] f fd → KB fd ps ks π) (pm : π.Perm (List.range ps.length)) : CalK c x ps ks π fm := by
  obtain ⟨f, fd, F, G, hm, hb⟩ := C
  exact ⟨⟨f, fd, j, G, hj, hm, F.kp, kb fd f F⟩, pm⟩
theorem kb_of {K : Frag} {x qual : Str} {params : Arguments} {body : List Stmt} {scope : Scope} {f : Addr} {fd : FuncData} {ps ks : List Str} {π : List Nat} (F : FunD K x qual params body scope [] [] f fd)
    (h : ∀ (kV doc pm : Value) (an : Option Addr) (cdv ct : Value) (ws : List Value), ws.length = ps.length → bindArgs (PySem.W.fnOf x qual params body scope .none kV doc pm an cdv ct) ⟨[], ks.zip ws⟩ = pure (ps.zip (permL π ws))) : KB fd ps ks π := fun s ws hl => by
  obtain ⟨oc, od, dV, kV, doc, pm, an, cdv, ct, osl, rfl, lk, hcd, hD, hK⟩ := F.ex
  rcases hD with ⟨_, rfl⟩ | ⟨e, _⟩
  · exact .of_eq (h kV doc pm an cdv ct ws hl)
  · exact absurd rfl e
/-! ### xs.index(d) -/
def isLst : D → Bool
  | .lst _ _ => true
  | _ => false
def xL (m : M Val) : M Val := fun s => match m s with
  | .ok (b, d) s' e => if isLst d = true then .ok (b, d) s' e else .bad
  | .exc x s' => .exc x s'
  | .bad => .bad
def idxD (d : D) (xs : List D) : Option Nat := xs.findIdx? fun z => eqD z d
def fIndex : List D → Option D
  | [.lst o xs, d] => if okD 60 (.lst o xs) = true ∧ okD 60 d = true then (idxD d xs).map fun j => .int (j : Nat) else none
  | _ => none
def rIdx (K : Frag) : List V → Hp → VK → Prop := fun vs H Q => match vs with
  | [x, y] => rIndexD K x [y] H Q
  | _ => False
theorem op_index {K : Frag} : OpV K (rIdx K) fIndex := opS fun H L T ds vs d Q r hf q => by
  unfold fIndex at hf
  split at hf
  · rename_i o xs y
    split at hf
    · rename_i hok
      cases e : idxD y xs with
      | none => rw [e] at hf; cases hf
      | some j =>
        rw [e] at hf
        cases hf
        obtain ⟨v, w, T1, T2, rfl, rfl, r1, r2⟩ := rps2 r
        have d1 := dp_of 60 _ v _ hok.1 r1
        have d2 := dp_of 60 _ w _ hok.2 r2
        obtain ⟨p, xs', A, rfl, h1, q1, s1⟩ := r1.seqL
        have e' : xs.findIdx? (fun z => eqD z y) = some j := e
        rw [List.findIdx?_eq_some_iff_getElem] at e'
        obtain ⟨hj, h2, h3⟩ := e'
        have gp : ∀ m, (pys xs)[m]? = (xs[m]?).map py := fun m => by rw [pys_map, List.getElem?_map]
        refine ⟨p, w, py y, pys xs, j, py xs[j], rfl, rfl, d1, d2, okD_shaped hok.1, okD_shaped hok.2, ?_, h2, fun m z' hm hz => ?_, q _ fun _ => ⟨rfl, rfl⟩⟩
        · rw [gp, List.getElem?_eq_getElem hj]; rfl
        · rw [gp] at hz
          have hm' : m < xs.length := Nat.lt_trans hm hj
          rw [List.getElem?_eq_getElem hm'] at hz
          cases hz
          simpa [eqD] using h3 m hm
    · cases hf
  · cases hf
section
variable {c : Ctx} {J : List (Nat × V)}
theorem snd_xL {ta : WX → TE} {ma : M Val} (ha : SndE c J ta ma) : SndE c J (fun W => fun σ H Q => ta W σ H fun x H1 => tyV c.K "list" x H1 ∧ Q x H1) (xL ma) := by
  intro W s σ H O F Q o k
  refine ha W s σ H O F _ o ?_
  unfold xL at k
  cases h1 : ma s with
  | bad => rw [h1] at k; exact k
  | exc x s1 => rw [h1] at k; exact k
  | ok bd s1 e1 =>
    obtain ⟨b, d⟩ := bd
    rw [h1] at k
    intro v H1 T1 O1 r1 o1 p1
    simp only [] at k
    split at k
    · rename_i hl
      refine ⟨?_, k v H1 T1 O1 r1 o1 p1⟩
      cases d with
      | lst o xs =>
        obtain ⟨p, xs', A, rfl, h1, _⟩ := r1.seqL
        exact .inl ⟨rfl, xs', SqL.of h1⟩
      | _ => cases hl
    · exact k.elim
theorem se_index {a e : Expr} {pos apos : Pos} {ma me : M Val} (ha : SE c J a ma) (he : SE c J e me) (hb : ∀ env : Env, attributeBase a "index" env (eval a env) = eval a env := by intro _; rfl) (hl : (apos.endLine == pos.line) = true := by rfl)
    (hs : ∀ env : Env, starEach [e] env = (false, eval e env) :: starEach [] env := by intro _; rfl)
    (hw : ∀ env : Env, ((backTo pos (starEach [e] env)).all (fun x => !x.1) && (backToKw pos (keywordEach [] env)).all (fun x => x.1.isSome) && decide ([e].length + ([] : List Keyword).length + (if ([] : List Keyword).isEmpty then 0 else 1) < 30)) = true := by intro _; rfl) :
    SE c J (.Call (.Attribute a "index" apos) [e] [] pos) (e2 (xL ma) me fIndex) := by
  obtain ⟨ta, pa, qa⟩ := ha
  obtain ⟨te, pe, qe⟩ := he
  refine ⟨fun W => tBM c.K "list" (rIndexD c.K) (ta W) (tCons (te W) tNil), fun W X hX tk => by rw [← hX.K]; exact pe_bm PySem.F.plainAttrs_list PySem.F.slot_list_index PySem.F.type_list_index (mt_indexD hX.u65) (pa W X hX tk) (pa_cons (pe W X hX tk) pa_nil (hs _)) (hb _) (hw _) hl (hs _) rfl, ?_⟩
  exact snd_op (snd_cons (snd_xL qa) (snd_cons qe snd_nil)) op_index
end
end VL
/-! VL 18: calls that give their temporaries away -/
namespace VL
open PySem PySem.Spec L2
def xCallT (fm : List D → FR) (ma : M (Bool × List D)) : M Val := fun s => match ma s with
  | .ok (b, ds) s' e => if (b || noFzs ds) = true then (match fm ds with
    | .ok d _ => .ok (true, d) s' e
    | _ => .bad) else .bad
  | .exc x s' => .exc x s'
  | .bad => .bad
section
variable {c : Ctx} {J : List (Nat × V)}
theorem snd_callT {ta : WX → TA} {ma : M (Bool × List D)} {fm : List D → FR} {mask : List Nat} {n : Nat} (hn : ∀ s b ds s' e, ma s = .ok (b, ds) s' e → ds.length = n) (ha : SndA c J ta ma) : SndE c J (fun W => fun σ H Q => ta W σ H fun vs H1 => spV c.K c.mg n mask fm vs H1 Q (WE W σ)) (xCallT fm ma) := by
  intro W s σ H O F Q o q
  refine ha W s σ H O F _ o ?_
  unfold xCallT at q
  cases h1 : ma s with
  | bad => rw [h1] at q; exact q
  | exc x s1 => rw [h1] at q; exact q
  | ok bd s1 e1 =>
    obtain ⟨b, ds⟩ := bd
    rw [h1] at q
    intro vs H1 T1 O1 r1 o1 p1
    simp only [] at q
    split at q
    · rename_i hb
      have rs := stricts_of hb r1
      have nd1 : (T1 ++ (O1 ++ F)).Nodup := nd_comm o1.nd
      have own1 : ∀ a ∈ T1 ++ (O1 ++ F), OwnO (H1 a) := fun a ha => o1.own a (by
        simp only [List.mem_append] at ha ⊢
        rcases ha with z | z | z <;> simp [z])
      refine ⟨ds, T1, O1 ++ F, hn _ _ _ _ _ h1, ⟨RSl.of_Rps rs, nd1, fun a ha => own1 a (List.mem_append_right _ ha), by simp⟩, ?_⟩
      cases h2 : fm ds with
      | bad => rw [h2] at q; exact q.elim
      | exc x io => rw [h2] at q; exact q.elim
      | ok d io =>
        rw [h2] at q
        intro v H2 T2 O2 r2 o2 p2
        have nT1 : ∀ a ∈ O1 ++ F, a ∉ T1 := fun a ha z => (List.nodup_append.mp nd1).2.2 a z a ha rfl
        have nd2 := o2.nd
        have nd3 : (T2 ++ (O1 ++ F)).Nodup := (List.nodup_append.mp nd2).2.1
        have mv : Mv H1 H2 T1 (O1 ++ (T1 ++ F)) (O1 ++ (T2 ++ F)) := ⟨fun a u h n => p2.keep a u h fun _ => n, fun a ha => own1 a (List.mem_append_left _ ha), fun a ha => by simp [ha], fun a ha => by
          simp only [List.mem_append] at ha ⊢
          rcases ha with z | z | z
          · simp [z]
          · exact (p2.newT a z).imp (fun y => .inr (.inl y.2)) fun y => y
          · simp [z]⟩
        have o3 : Own c.K J H2 s1 σ O1 (T2 ++ F) := by
          refine ⟨o1.rep.mv mv fun a ha => nT1 a (List.mem_append_left _ ha), nd_comm nd3, fun a ha => ?_, o1.pin⟩
          rcases List.mem_append.mp ha with z | z
          · exact r2.own a z
          · have h := own1 a (by simp [z])
            obtain ⟨u, e⟩ := OwnO.some h
            rw [p2.keep a u e fun _ => nT1 a (by simp [z])]
            rw [e] at h
            exact h
        refine q v H2 T2 O1 (r2.anti fun a ha => ?_) o3 ⟨fun a u h n => p2.keep a u (p1.keep a u h n) fun _ z => ?_, fun a ha => ?_, p1.newO⟩
        · simp only [av, if_true, List.mem_append] at ha ⊢
          rcases ha with z | z | z <;> simp [z]
        · rcases p1.newT a z with y | y
          · exact n y.1 y.2
          · rw [h] at y; cases y
        · rcases p2.newT a ha with y | y
          · exact p1.newT a y.2
          · by_cases m : e1 = true ∧ a ∈ O
            · exact .inl m
            · refine .inr ?_
              cases k : H a with
              | none => rfl
              | some u => rw [p1.keep a u k fun z y => m ⟨z, y⟩] at y; cases y
    · exact q.elim
theorem se_callT {x : Str} {p pos : Pos} {e : Expr} {es : List Expr} {ps : List Str} {mask : List Nat} {fm : List D → FR} {ma : M (Bool × List D)} (C : Cal c x ps mask fm) (hg : c.scope.names.lookup x = some .globalImplicit) (ha : SA c J (e :: es) ma) (hn : ∀ s b ds s' e, ma s = .ok (b, ds) s' e → ds.length = ps.length)
    (hdb : (x == ("__debug__" : Str)) = false := by decide) (he : ∀ env : Env, starEach (e :: es) env = (false, eval e env) :: starEach es env := by intro _; rfl) (hpl : ∀ env : Env, (backTo pos (starEach es env)).any (·.1) = false := by intro _; rfl) :
    SE c J (.Call (.Name x p) (e :: es) [] pos) (xCallT fm ma) := by
  obtain ⟨ta, pa, qa⟩ := ha
  exact ⟨_, fun W X hX tk => pe_of hX tk C hg (pa W X hX tk) hdb (he _) (hpl _), snd_callT hn qa⟩
end
/-- the law's promise met: the law's meaning says true -/
theorem law_sp {K : Frag} {mg : Str → Option Value} {fm : List D → FR} {H : Hp} {a : Addr} {ns : List Int} (hO : Only H) (hS : SqL K H a (ns.map V.int)) (h : fm [.wl (ns.map D.int)] = .ok (.bl true) []) :
    spV K mg 1 [] fm [.ref a] H (fun v _ => v = .bl true) fun _ _ _ => False := by
  have wl : WlL K H a (ns.map V.int) := by
    rcases hS with (z | ⟨o, z⟩) | z
    · rcases hO a with y | ⟨o, xs, y⟩
      · rw [z] at y; cases y
      · rw [z] at y; cases y
    · exact .inl ⟨o, z⟩
    · exact .inr z
  refine ⟨[.wl (ns.map D.int)], [], [], rfl, ⟨⟨_, [], [], [], rfl, rfl, ⟨_, rfl, a, _, rfl, wl, rfl, rps_ints ns⟩, rfl, rfl⟩, by simp, by simp, by simp⟩, ?_⟩
  rw [h]
  exact fun v H' T O' r _ _ => r.1
end VL
/-! VL 19: plain facts on meanings, lists of ints -/
namespace VL
open PySem PySem.Spec L2
theorem noOwns_ints : ∀ ns : List Int, noOwns (ns.map D.int) = true
  | [] => rfl
  | n :: ns => by simp [noOwns, noOwn, noOwns_ints ns]
theorem noFzs_ints : ∀ ns : List Int, noFzs (ns.map D.int) = true
  | [] => rfl
  | n :: ns => by simp [noFzs, noFz, noFzs_ints ns]
theorem fzs_ints : ∀ ns : List Int, fzs (ns.map D.int) = ns.map D.int
  | [] => rfl
  | n :: ns => by simp [fzs, fz, fzs_ints ns]
theorem fzs_append : ∀ xs ys : List D, fzs (xs ++ ys) = fzs xs ++ fzs ys
  | [], _ => rfl
  | x :: xs, ys => by simp [fzs, fzs_append xs ys]
theorem noOwns_append : ∀ xs ys : List D, noOwns (xs ++ ys) = (noOwns xs && noOwns ys)
  | [], _ => rfl
  | x :: xs, ys => by simp [noOwns, noOwns_append xs ys, Bool.and_assoc]
theorem noFzs_append : ∀ xs ys : List D, noFzs (xs ++ ys) = (noFzs xs && noFzs ys)
  | [], _ => rfl
  | x :: xs, ys => by simp [noFzs, noFzs_append xs ys, Bool.and_assoc]
theorem fzs_map : ∀ xs : List D, fzs xs = xs.map fz
  | [] => rfl
  | x :: xs => by simp [fzs, fzs_map xs]
theorem noOwns_all : ∀ xs : List D, noOwns xs = xs.all noOwn
  | [] => rfl
  | x :: xs => by simp [noOwns, noOwns_all xs]
theorem noFzs_all : ∀ xs : List D, noFzs xs = xs.all noFz
  | [] => rfl
  | x :: xs => by simp [noFzs, noFzs_all xs]
theorem okD_ints (k : Nat) (ns : List Int) : (ns.map D.int).all (okD k) = true := by
  rw [List.all_map]
  exact List.all_eq_true.mpr fun n _ => by cases k <;> rfl
theorem getI (ns : List Int) (i : Nat) : (ns.map D.int)[i]? = (ns[i]?).map D.int := List.getElem?_map
theorem rngD_ints (lo : Int) (n : Nat) : rngD lo n = ((List.range n).map fun i => lo + ((i : Nat) : Int)).map D.int := by
  unfold rngD
  rw [List.map_map]
  rfl
theorem rngD_succ (lo : Int) (n : Nat) : rngD lo (n + 1) = .int lo :: rngD (lo + 1) n := by
  unfold rngD
  rw [List.range_succ_eq_map, List.map_cons, List.map_map]
  simp only [Int.ofNat_zero, Int.add_zero, List.cons.injEq, true_and]
  refine List.map_congr_left fun i _ => ?_
  show D.int (lo + ((i + 1 : Nat) : Int)) = D.int (lo + 1 + (i : Int))
  congr 1
  omega
theorem rngD_zero (lo : Int) : rngD lo 0 = [] := rfl
theorem eqD_int (a b : Int) : eqD (.int a) (.int b) = decide (a = b) := by
  unfold eqD
  simp only [py, PyData.eqv]
  by_cases h : a = b <;> simp [h]
theorem map_erase (ns : List Int) (k : Nat) : (ns.map D.int).eraseIdx k = (ns.eraseIdx k).map D.int := by
  induction ns generalizing k with
  | nil => rfl
  | cons n ns ih => cases k with
    | zero => rfl
    | succ k => simp [List.eraseIdx_cons_succ, ih]
theorem perm_erase {α : Type} {l : List α} {k : Nat} {x : α} (h : l[k]? = some x) : (x :: l.eraseIdx k).Perm l := by
  induction l generalizing k with
  | nil => simp at h
  | cons y l ih => cases k with
    | zero => simp at h; subst h; exact .refl _
    | succ k =>
      simp at h
      rw [List.eraseIdx_cons_succ]
      exact (List.Perm.swap y x _).trans (List.Perm.cons y (ih h))
theorem seqIx {i : Int} {n : Nat} (h0 : 0 ≤ i) (h1 : i < n) : seqIndex? i n = some i.toNat := by
  unfold seqIndex?
  have : ¬ i < 0 := by omega
  simp [this, h0, h1]
def upto (n : Nat) : List Int := (List.range n).map fun i => ((i : Nat) : Int)
theorem upto_length (n : Nat) : (upto n).length = n := by simp [upto]
theorem mem_upto {n : Nat} {i : Int} : i ∈ upto n ↔ 0 ≤ i ∧ i < n := by
  unfold upto
  simp only [List.mem_map, List.mem_range]
  constructor
  · rintro ⟨k, hk, rfl⟩; omega
  · rintro ⟨h0, h1⟩; exact ⟨i.toNat, by omega, by omega⟩
theorem gRg_upto (n : Nat) : gRg 0 (n : Int) = (upto n).map D.int := by
  unfold gRg upto
  rw [List.map_map]
  simp [Function.comp_def]
theorem rngD_upto (n : Nat) : rngD 0 n = (upto n).map D.int := by
  unfold rngD upto
  rw [List.map_map]
  simp [Function.comp_def]
/-! ### the pot -/
def Pot (p : D) : Prop := ∃ a b : Int, p = .lst true [.int a, .int b] ∧ 0 ≤ a ∧ 0 ≤ b ∧ b < 2147483648
end VL
/-! VL 20: plain facts on comprehensions, comparisons of ints and lists -/
namespace VL
open PySem PySem.Spec L2
theorem okL (k : Nat) (o : Bool) (ns : List Int) : okD (k + 1) (.lst o (ns.map D.int)) = true := okD_ints k ns
theorem okI (k : Nat) (n : Int) : okD k (.int n) = true := by cases k <;> rfl
theorem eqvAll_ints : ∀ a b : List Int, PyData.eqvAll (pys (a.map D.int)) (pys (b.map D.int)) = decide (a = b)
  | [], [] => rfl
  | [], _ :: _ => by simp [pys, PyData.eqvAll]
  | _ :: _, [] => by simp [pys, PyData.eqvAll]
  | x :: a, y :: b => by
    have h := eqvAll_ints a b
    simp only [List.map_cons, pys, py, PyData.eqvAll, PyData.eqv, h]
    by_cases h1 : x = y <;> by_cases h2 : a = b <;> simp [h1, h2]
theorem eqD_ints (o o' : Bool) (a b : List Int) : eqD (.lst o (a.map D.int)) (.lst o' (b.map D.int)) = decide (a = b) := by
  show PyData.eqv (.list _) (.list _) = _
  simp only [PyData.eqv]
  exact eqvAll_ints a b
theorem eqD_nil (o o' : Bool) (a : List Int) : eqD (.lst o (a.map D.int)) (.lst o' []) = decide (a = []) := eqD_ints o o' a []
theorem inD_ints (x : Int) (xs : List Int) : inD (.int x) (xs.map D.int) = decide (x ∈ xs) := by
  unfold inD
  rw [List.any_map, Bool.eq_iff_iff, decide_eq_true_iff, List.any_eq_true]
  constructor
  · rintro ⟨z, hz, e⟩
    simp only [Function.comp_apply, eqD_int, decide_eq_true_iff] at e
    rwa [← e]
  · intro h
    exact ⟨x, h, by simp [eqD_int]⟩
theorem idxD_ints (x : Int) (xs : List Int) : idxD (.int x) (xs.map D.int) = xs.findIdx? fun z => decide (z = x) := by
  unfold idxD
  rw [List.findIdx?_map]
  congr 1
/-! ### comprehensions -/
theorem lcM_map {g : D → Sl → Option Sl} {me : M Val} {own : List Nat} {s : Sl} {f : D → D} : ∀ {items acc : List D} {e : Bool}, (∀ d ∈ items, ∃ s1 s3 b, g d s = some s1 ∧ me s1 = .ok (b, f d) s3 false ∧ (b || noFz (f d)) = true ∧ kill own s3 = s) → acc.length + items.length ≤ 16777216 →
    lcM g tTrue me own items acc s e = .ok (acc ++ items.map f) s e
  | [], acc, e, _, _ => by simp [lcM]
  | d :: items, acc, e, h, hl => by
    obtain ⟨s1, s3, b, h1, h2, h3, h4⟩ := h d (by simp)
    have hf : fits (acc.length + 1) = true := by unfold fits; exact decide_eq_true (by simp at hl; omega)
    have ih := lcM_map (g := g) (me := me) (own := own) (s := s) (f := f) (items := items) (acc := acc ++ [f d]) (e := e) (fun d hd => h d (by simp [hd])) (by simp at hl ⊢; omega)
    unfold lcM
    rw [h1]
    simp only [tTrue, if_true, h2, h3, hf, and_self, h4, Bool.or_false]
    rw [ih]
    simp
theorem lcM_ints {g : D → Sl → Option Sl} {me : M Val} {own : List Nat} {s : Sl} {ns ks : List Int} {e : Bool} (f : Int → Int) (hk : ks = ns.map f) (h : ∀ k ∈ ns, ∃ s1 s3 b, g (.int k) s = some s1 ∧ me s1 = .ok (b, .int (f k)) s3 false ∧ kill own s3 = s) (hl : ns.length ≤ 16777216) :
    lcM g tTrue me own (ns.map D.int) [] s e = .ok (ks.map D.int) s e := by
  have := lcM_map (g := g) (me := me) (own := own) (s := s) (f := fun d => match d with
    | .int k => .int (f k)
    | d => d) (items := ns.map D.int) (acc := []) (e := e) (fun d hd => by
      obtain ⟨k, hk, rfl⟩ := List.mem_map.mp hd
      obtain ⟨s1, s3, b, h1, h2, h3⟩ := h k hk
      exact ⟨s1, s3, b, h1, h2, by simp [noFz], h3⟩) (by simpa using hl)
  rw [this, hk]
  simp [Function.comp_def]
theorem lcM_filt {g : D → Sl → Option Sl} {mt : M Bool} {me : M Val} {own : List Nat} {s : Sl} {f : D → D} {p : D → Bool} : ∀ {items acc : List D} {e : Bool}, (∀ d ∈ items, ∃ s1 s2 s3 b, g d s = some s1 ∧ mt s1 = .ok (p d) s2 false ∧ kill own s2 = s ∧ (p d = true → me s2 = .ok (b, f d) s3 false ∧ (b || noFz (f d)) = true ∧ kill own s3 = s)) → acc.length + items.length ≤ 16777216 →
    lcM g mt me own items acc s e = .ok (acc ++ (items.filter p).map f) s e
  | [], acc, e, _, _ => by simp [lcM]
  | d :: items, acc, e, h, hl => by
    obtain ⟨s1, s2, s3, b, h1, h2, hk, h3⟩ := h d (by simp)
    have hf : fits (acc.length + 1) = true := by unfold fits; exact decide_eq_true (by simp at hl; omega)
    have ih := fun acc' (ha : acc'.length + items.length ≤ 16777216) => lcM_filt (g := g) (mt := mt) (me := me) (own := own) (s := s) (f := f) (p := p) (items := items) (acc := acc') (e := e) (fun d hd => h d (by simp [hd])) ha
    unfold lcM
    rw [h1]
    simp only [h2]
    by_cases hp : p d = true
    · obtain ⟨h4, h5, h6⟩ := h3 hp
      simp only [hp, if_true, h4, h5, hf, and_self, h6, Bool.or_false]
      rw [ih _ (by simp at hl ⊢; omega)]
      simp [hp]
    · simp only [hp, if_false, hk, Bool.or_false, Bool.false_eq_true]
      rw [ih _ (by simp at hl; omega)]
      simp [hp]
/-! ### loops -/
theorem loopM_srch {g : D → Sl → Option Sl} {body : MS} {dead : List Nat} {r : D} {s0 : Sl} (P : D → Bool) : ∀ (ds : List D), (∀ d ∈ ds, P d = true → ∃ s1 s2, g d s0 = some s1 ∧ body s1 = .nx s2 ∧ kill dead s2 = s0) → (∀ d ∈ ds, P d = false → ∃ s1 s2, g d s0 = some s1 ∧ body s1 = .rt r s2) →
    (ds.all P = true → loopM g body dead ds s0 = .nx s0) ∧ (ds.all P = false → ∃ s', loopM g body dead ds s0 = .rt r s')
  | [], _, _ => ⟨fun _ => by simp [loopM], fun h => by simp at h⟩
  | d :: ds, h1, h2 => by
    obtain ⟨i1, i2⟩ := loopM_srch (g := g) (body := body) (dead := dead) (r := r) (s0 := s0) P ds (fun d hd => h1 d (by simp [hd])) (fun d hd => h2 d (by simp [hd]))
    cases hp : P d with
    | true =>
      obtain ⟨s1, s2, e1, e2, e3⟩ := h1 d (by simp) hp
      constructor
      · intro h
        simp only [loopM, e1, e2, e3]
        exact i1 (by simpa [hp] using h)
      · intro h
        simp only [loopM, e1, e2, e3]
        exact i2 (by simpa [hp] using h)
    | false =>
      obtain ⟨s1, s2, e1, e2⟩ := h2 d (by simp) hp
      constructor
      · intro h
        simp [hp] at h
      · intro _
        exact ⟨s2, by simp only [loopM, e1, e2]⟩
theorem loopM_fold {α : Type} {g : D → Sl → Option Sl} {body : MS} {dead : List Nat} (st : α → Sl) (f : α → D → α) (I : α → Prop) : ∀ (ds : List D) (a : α), I a → (∀ d ∈ ds, ∀ a, I a → I (f a d) ∧ ∃ s1 s2, g d (st a) = some s1 ∧ body s1 = .nx s2 ∧ kill dead s2 = st (f a d)) →
    loopM g body dead ds (st a) = .nx (st (ds.foldl f a)) ∧ I (ds.foldl f a)
  | [], a, hi, _ => ⟨by simp [loopM], hi⟩
  | d :: ds, a, hi, h => by
    obtain ⟨h1, s1, s2, e1, e2, e3⟩ := h d (by simp) a hi
    obtain ⟨i1, i2⟩ := loopM_fold st f I ds (f a d) h1 (fun d hd => h d (by simp [hd]))
    refine ⟨?_, i2⟩
    simp only [loopM, e1, e2, e3]
    exact i1
theorem enumD_ints (ns : List Int) : enumD (ns.map D.int) = ((upto ns.length).zip ns).map fun p => D.tup [.int p.1, .int p.2] := by
  unfold enumD
  rw [List.length_map, rngD_upto]
  generalize upto ns.length = us
  unfold pairD
  induction us generalizing ns with
  | nil => rfl
  | cons u us ih => cases ns with
    | nil => rfl
    | cons n ns => simp only [List.map_cons, List.zipWith_cons_cons, List.zip_cons_cons, ih]
theorem enum_mem {ns : List Int} {p : Int × Int} (h : p ∈ (upto ns.length).zip ns) : 0 ≤ p.1 ∧ p.1 < ns.length ∧ ns[p.1.toNat]? = some p.2 := by
  obtain ⟨i, hi, e⟩ := List.mem_iff_getElem.mp h
  rw [List.getElem_zip] at e
  subst e
  have h1 : i < ns.length := by rw [List.length_zip] at hi; omega
  have h2 : (upto ns.length)[i]'(by rw [upto_length]; exact h1) = (i : Int) := by simp [upto]
  rw [h2]
  exact ⟨by omega, by simp only []; omega, by simp [h1]⟩
end VL
/-! VL 21: repr of small trees -/
namespace VL
open PySem PySem.Spec L2
mutual
theorem py_fz : ∀ d : D, py (fz d) = py d
  | .non => rfl
  | .bl _ => rfl
  | .int _ => rfl
  | .str _ => rfl
  | .lst o xs => by simp only [fz, py, pys_fz xs]
  | .wl xs => by simp only [fz, py, pys_fz xs]
  | .tup xs => by simp only [fz, py, pys_fz xs]
  | .dK _ _ _ => rfl
  | .dT _ _ _ => rfl
theorem pys_fz : ∀ ds : List D, pys (fzs ds) = pys ds
  | [] => rfl
  | d :: ds => by simp only [fzs, pys, py_fz d, pys_fz ds]
end
theorem showD_fz (d : D) : showD (fz d) = showD d := by unfold showD; rw [py_fz]
theorem showD_lst (o o' : Bool) (xs : List D) : showD (.lst o xs) = showD (.lst o' xs) := rfl
theorem okD_fz : ∀ (k : Nat) (d : D), okD k (fz d) = okD k d
  | k, .non => by cases k <;> rfl
  | k, .bl _ => by cases k <;> rfl
  | k, .int _ => by cases k <;> rfl
  | k, .str _ => by cases k <;> rfl
  | 0, .lst _ _ => rfl
  | 0, .wl _ => rfl
  | 0, .tup _ => rfl
  | 0, .dK _ _ _ => rfl
  | 0, .dT _ _ _ => rfl
  | k + 1, .lst o xs => by simp only [fz, okD, fzs_map, List.all_map, Function.comp_def, okD_fz k]
  | k + 1, .wl xs => by simp only [fz, okD, fzs_map, List.all_map, Function.comp_def, okD_fz k]
  | k + 1, .tup xs => by simp only [fz, okD, fzs_map, List.all_map, Function.comp_def, okD_fz k]
  | _ + 1, .dK _ _ _ => rfl
  | _ + 1, .dT _ _ _ => rfl
theorem reOk_fz (d : D) : reOk (fz d) = reOk d := by unfold reOk; rw [okD_fz, py_fz]
/-! the signs of shown texts -/
theorem strOk_app (a b : Str) : PyData.strOk (a ++ b) = (PyData.strOk a && PyData.strOk b) := by
  unfold PyData.strOk
  show ((a.cps ++ b.cps).all _) = _
  rw [Array.all_append]
theorem strOk_of (s : String) : PyData.strOk (Str.ofString s) = true := by
  unfold PyData.strOk
  rw [Str.ofString_eq_toList]
  simp only [List.all_toArray, List.all_map, List.all_eq_true, Function.comp_apply, decide_eq_true_eq]
  intro c _
  have := c.valid
  show c.val.toNat < 1114112
  rcases this with h | h
  · have : c.val.toNat < 55296 := h
    omega
  · have : c.val.toNat < 1114112 := h.2
    omega
theorem strOk_textFrom : ∀ (ts : List Str) (k : Nat) (acc : Str), PyData.strOk acc = true → (∀ t ∈ ts, PyData.strOk t = true) → PyData.strOk (textFrom k acc ts) = true
  | [], _, _, h, _ => h
  | t :: ts, k, acc, h, ht => by
    refine strOk_textFrom ts (k + 1) _ ?_ (fun u hu => ht u (List.mem_cons_of_mem _ hu))
    rw [strOk_app, strOk_app, h, ht t List.mem_cons_self, strOk_of]
    rfl
theorem strOk_listText {ts : List Str} (ht : ∀ t ∈ ts, PyData.strOk t = true) : PyData.strOk (listText ts) = true := by
  unfold listText
  rw [strOk_app, strOk_textFrom ts 0 _ (strOk_of _) ht, strOk_of]
  rfl
theorem strOk_join (sep : Str) (hs : PyData.strOk sep = true) : ∀ {ts : List Str}, (∀ t ∈ ts, PyData.strOk t = true) → PyData.strOk (Str.join sep ts) = true
  | [], _ => by
    show PyData.strOk Str.empty = true
    exact strOk_of ""
  | [x], h => h x (by simp)
  | x :: y :: r, h => by
    show PyData.strOk (x ++ sep ++ Str.join sep (y :: r)) = true
    rw [strOk_app, strOk_app, h x (by simp), hs, strOk_join sep hs (fun t ht => h t (List.mem_cons_of_mem _ ht))]
    rfl
theorem strOk_tupleText {ts : List Str} (ht : ∀ t ∈ ts, PyData.strOk t = true) : PyData.strOk (tupleText ts) = true := by
  unfold tupleText
  rw [strOk_app, strOk_app, strOk_join _ (strOk_of _) ht, strOk_of, strOk_of]
  rfl
/-- a tree of at most k levels whose text has at most n signs -/
def Pl : Nat → Nat → D → Prop
  | _, n, .non => 4 ≤ n
  | _, n, .bl _ => 5 ≤ n
  | _, n, .int i => i.natAbs < 10 ^ 100 ∧ 101 ≤ n
  | _, n, .str x => (PyData.canLay0 (.str x) = true ∧ PyData.strOk (reprText x) = true) ∧ (reprText x).length ≤ n
  | k + 1, n, .lst _ xs => ∃ m, (∀ x ∈ xs, Pl k m x) ∧ xs.length * (m + 2) + 3 ≤ n
  | k + 1, n, .wl xs => ∃ m, (∀ x ∈ xs, Pl k m x) ∧ xs.length * (m + 2) + 3 ≤ n
  | k + 1, n, .tup xs => ∃ m, (∀ x ∈ xs, Pl k m x) ∧ xs.length * (m + 2) + 3 ≤ n
  | _, _, _ => False
theorem Pl.mono {n n' : Nat} (h : n ≤ n') : ∀ {k : Nat} {d : D}, Pl k n d → Pl k n' d
  | k, .non, p => by cases k <;> (simp only [Pl] at p ⊢; omega)
  | k, .bl _, p => by cases k <;> (simp only [Pl] at p ⊢; omega)
  | k, .int _, p => by cases k <;> (simp only [Pl] at p ⊢; exact ⟨p.1, by omega⟩)
  | k, .str _, p => by cases k <;> (simp only [Pl] at p ⊢; exact ⟨p.1, by omega⟩)
  | 0, .lst _ _, p => by simp only [Pl] at p
  | 0, .wl _, p => by simp only [Pl] at p
  | 0, .tup _, p => by simp only [Pl] at p
  | 0, .dK _ _ _, p => by simp only [Pl] at p
  | 0, .dT _ _ _, p => by simp only [Pl] at p
  | k + 1, .lst o xs, p => by
    simp only [Pl] at p ⊢
    obtain ⟨m, h1, h2⟩ := p
    exact ⟨m, h1, by omega⟩
  | k + 1, .wl xs, p => by
    simp only [Pl] at p ⊢
    obtain ⟨m, h1, h2⟩ := p
    exact ⟨m, h1, by omega⟩
  | k + 1, .tup xs, p => by
    simp only [Pl] at p ⊢
    obtain ⟨m, h1, h2⟩ := p
    exact ⟨m, h1, by omega⟩
  | _ + 1, .dK _ _ _, p => by simp only [Pl] at p
  | _ + 1, .dT _ _ _, p => by simp only [Pl] at p
structure PlOk (k n : Nat) (d : D) : Prop where
  ok : okD k d = true
  sh : (py d).showable = true
  nd : (py d).hasDict = false
  le : (py d).shown.length ≤ n
  st : PyData.strOk (py d).shown = true
theorem plAll {k m : Nat} : ∀ {xs : List D}, (∀ x ∈ xs, PlOk k m x) → xs.all (okD k) = true ∧ PyData.showableAll (pys xs) = true ∧ PyData.hasDictAll (pys xs) = false ∧ ((PyData.shownAll (pys xs)).map (·.length)).sum ≤ xs.length * m ∧ (PyData.shownAll (pys xs)).length = xs.length ∧ ∀ t ∈ PyData.shownAll (pys xs), PyData.strOk t = true
  | [], _ => ⟨rfl, rfl, rfl, by simp [pys, PyData.shownAll], rfl, by simp [pys, PyData.shownAll]⟩
  | x :: xs, h => by
    obtain ⟨h1, h2, h3, h4, h5, h6⟩ := plAll (fun y hy => h y (List.mem_cons_of_mem _ hy))
    obtain ⟨g1, g2, g3, g4, g5⟩ := h x List.mem_cons_self
    refine ⟨by simp [h1, g1], by simp [pys, PyData.showableAll, h2, g2], by simp [pys, PyData.hasDictAll, h3, g3], ?_, by simp [pys, PyData.shownAll, h5], ?_⟩
    · simp only [pys, PyData.shownAll, List.map_cons, List.sum_cons, List.length_cons, Nat.succ_mul]
      omega
    · intro t ht
      simp only [pys, PyData.shownAll, List.mem_cons] at ht
      rcases ht with rfl | ht
      · exact g5
      · exact h6 t ht
theorem plSum {a m : Nat} : a * m + 2 * a + 3 = a * (m + 2) + 3 := by rw [Nat.mul_add]; omega
theorem big_log2 {n : Nat} (h : n < 10 ^ 100) : n.log2 < 1920 := by
  by_cases h0 : n = 0
  · subst h0; decide
  · refine (Nat.log2_lt h0).mpr (Nat.lt_trans h ?_)
    decide +kernel
theorem Pl.all : ∀ {k n : Nat} {d : D}, Pl k n d → PlOk k n d
  | k, n, .non, p => ⟨by cases k <;> rfl, rfl, rfl, by cases k <;> exact p, strOk_of _⟩
  | k, n, .bl b, p => ⟨by cases k <;> rfl, rfl, rfl, by
      have p5 : 5 ≤ n := by cases k <;> exact p
      show (PyData.shown (.bool b)).length ≤ n
      cases b
      · refine Nat.le_trans ?_ p5
        decide
      · refine Nat.le_trans ?_ p5
        decide, by cases b <;> exact strOk_of _⟩
  | k, n, .int i, p => by
      have p : i.natAbs < 10 ^ 100 ∧ 101 ≤ n := by cases k <;> exact p
      refine ⟨by cases k <;> rfl, ?_, rfl, ?_, strOk_of _⟩
      · show decide (i.natAbs.log2 < 1920) = true
        exact decide_eq_true (big_log2 p.1)
      · show (Str.ofString (toString i)).length ≤ n
        rw [ofString_length]
        exact Nat.le_trans (int_text_length_le10 (by decide) p.1) p.2
  | k, n, .str x, p => by
      have p : (PyData.canLay0 (.str x) = true ∧ PyData.strOk (reprText x) = true) ∧ (reprText x).length ≤ n := by cases k <;> exact p
      exact ⟨by cases k <;> exact p.1.1, rfl, rfl, p.2, p.1.2⟩
  | 0, _, .lst _ _, p => by simp only [Pl] at p
  | 0, _, .wl _, p => by simp only [Pl] at p
  | 0, _, .tup _, p => by simp only [Pl] at p
  | 0, _, .dK _ _ _, p => by simp only [Pl] at p
  | 0, _, .dT _ _ _, p => by simp only [Pl] at p
  | k + 1, n, .lst o xs, p => by
      simp only [Pl] at p
      obtain ⟨m, h1, h2⟩ := p
      obtain ⟨g1, g2, g3, g4, g5, g6⟩ := plAll (xs := xs) (fun x hx => (h1 x hx).all)
      refine ⟨g1, g2, g3, ?_, strOk_listText g6⟩
      have := listText_len_le (PyData.shownAll (pys xs))
      show (listText (PyData.shownAll (pys xs))).length ≤ n
      rw [Nat.mul_add] at h2
      omega
  | k + 1, n, .wl xs, p => by
      simp only [Pl] at p
      obtain ⟨m, h1, h2⟩ := p
      obtain ⟨g1, g2, g3, g4, g5, g6⟩ := plAll (xs := xs) (fun x hx => (h1 x hx).all)
      refine ⟨g1, g2, g3, ?_, strOk_listText g6⟩
      have := listText_len_le (PyData.shownAll (pys xs))
      show (listText (PyData.shownAll (pys xs))).length ≤ n
      rw [Nat.mul_add] at h2
      omega
  | k + 1, n, .tup xs, p => by
      simp only [Pl] at p
      obtain ⟨m, h1, h2⟩ := p
      obtain ⟨g1, g2, g3, g4, g5, g6⟩ := plAll (xs := xs) (fun x hx => (h1 x hx).all)
      refine ⟨g1, g2, g3, ?_, strOk_tupleText g6⟩
      have := tupleText_len_le (PyData.shownAll (pys xs))
      show (tupleText (PyData.shownAll (pys xs))).length ≤ n
      rw [Nat.mul_add] at h2
      omega
  | _ + 1, _, .dK _ _ _, p => by simp only [Pl] at p
  | _ + 1, _, .dT _ _ _, p => by simp only [Pl] at p
theorem Pl.re {n : Nat} {d : D} (p : Pl 60 n d) (h : n ≤ 16777216) : reOk d = true := by
  obtain ⟨h1, h2, h3, h4, _⟩ := p.all
  have : n ≤ sizeLine := fits_line (by unfold fits; exact decide_eq_true h)
  unfold reOk
  rw [h1, h2, h3, decide_eq_true (by omega)]
  rfl
theorem Pl.ints {k n : Nat} (o : Bool) {ns : List Int} (h : ∀ i ∈ ns, i.natAbs < 10 ^ 100) (hn : ns.length * 103 + 3 ≤ n) : Pl (k + 1) n (.lst o (ns.map D.int)) := by
  simp only [Pl]
  refine ⟨101, ?_, by simpa using hn⟩
  intro x hx
  obtain ⟨i, hi, rfl⟩ := List.mem_map.mp hx
  cases k <;> exact ⟨h i hi, Nat.le_refl _⟩
theorem eqD_str (x : Str) : eqD (.str x) (.str x) = true := by
  unfold eqD
  simp [py, PyData.eqv]
theorem Pl.okS {k n : Nat} {d : D} (p : Pl k n d) (j : Nat) : okD j (.str (showD d)) = true := by
  have : okD j (.str (showD d)) = PyData.strOk (py d).shown := by cases j <;> rfl
  rw [this]
  exact p.all.st
theorem Pl.fz {n : Nat} : ∀ {k : Nat} {d : D}, Pl k n d → Pl k n (VL.fz d)
  | k, .non, p => p
  | k, .bl _, p => p
  | k, .int _, p => p
  | k, .str _, p => p
  | 0, .lst _ _, p => p
  | 0, .wl _, p => p
  | 0, .tup _, p => p
  | 0, .dK _ _ _, p => by simp only [Pl] at p
  | 0, .dT _ _ _, p => by simp only [Pl] at p
  | k + 1, .lst o xs, p => by
    simp only [Pl, VL.fz, fzs_map, List.mem_map, List.length_map] at p ⊢
    obtain ⟨m, h1, h2⟩ := p
    exact ⟨m, fun x hx => by obtain ⟨y, hy, rfl⟩ := hx; exact (h1 y hy).fz, h2⟩
  | k + 1, .wl xs, p => by
    simp only [Pl, VL.fz, fzs_map, List.mem_map, List.length_map] at p ⊢
    obtain ⟨m, h1, h2⟩ := p
    exact ⟨m, fun x hx => by obtain ⟨y, hy, rfl⟩ := hx; exact (h1 y hy).fz, h2⟩
  | k + 1, .tup xs, p => by
    simp only [Pl, VL.fz, fzs_map, List.mem_map, List.length_map] at p ⊢
    obtain ⟨m, h1, h2⟩ := p
    exact ⟨m, fun x hx => by obtain ⟨y, hy, rfl⟩ := hx; exact (h1 y hy).fz, h2⟩
  | _ + 1, .dK _ _ _, p => by simp only [Pl] at p
  | _ + 1, .dT _ _ _, p => by simp only [Pl] at p
theorem okD_str {k : Nat} {x : Str} : okD k (.str x) = PyData.canLay0 (.str x) := by cases k <;> rfl
theorem fRepr_ok {d : D} (h : reOk d = true) : fRepr [d] = some (.str (showD d)) := by simp [fRepr, h]
end VL
namespace Wk30
open PySem PySem.Spec L2 VL
/-! printed by gen.py -/
def top (i : Nat) : Stmt := PySem.Challenge.pw_webnames_k30_any_value_as_colouring.main.body.getD i (.Pass ⟨0, 0, 0, 0⟩)
/-- names that are free for the built-ins -/
structure Fre (mg : Str → Option Value) : Prop where
  free_abs : mg "abs" = none
  free_bool : mg "bool" = none
  free_divmod : mg "divmod" = none
  free_enumerate : mg "enumerate" = none
  free_int : mg "int" = none
  free_isinstance : mg "isinstance" = none
  free_len : mg "len" = none
  free_list : mg "list" = none
  free_max : mg "max" = none
  free_range : mg "range" = none
  free_repr : mg "repr" = none
  free_sorted : mg "sorted" = none
  free_tuple : mg "tuple" = none
  free_zip : mg "zip" = none
/-! ### is_integer: slots ['value'] -/
abbrev st_is_integer : Stmt := top 1
def nn_is_integer : List Str := ["value"]
def m_is_integer : MS :=
    (sRet (xAnd (e1 (xN 0) (fIsi "int")) (xNot (e1 (xN 0) (fIsi "bool")))))
def fr_is_integer : List D → FR := fnM 1 [] m_is_integer
/-! ### is_count: slots ['value'] -/
abbrev st_is_count : Stmt := top 2
def nn_is_count : List Str := ["value"]
def m_is_count : MS :=
    (sRet (xAnd (xCall fr_is_integer (aCons (xN 0) aNil)) (e2 (xN 0) (xC (.int 0)) (fCmp fun i j => decide (j ≤ i)))))
def fr_is_count : List D → FR := fnM 1 [] m_is_count
/-! ### colour_many: slots ['colouring'] -/
abbrev st_colour_many : Stmt := top 4
def nn_colour_many : List Str := ["colouring"]
def m_colour_many : MS :=
    (sRet (e2 (eOp (aCons (e2 (eOp (aCons (e1 (xC (.int 1)) fNeg) aNil) fLst) (xN 0) fAdd) aNil) fMax) (xC (.int 1)) fAdd))
def fr_colour_many : List D → FR := fnM 1 [] m_colour_many
/-! ### is_colouring: slots ['many', 'value', 'colour'] -/
abbrev st_is_colouring : Stmt := top 5
def nn_is_colouring : List Str := ["many", "value", "colour"]
def m_is_colouring : MS :=
    (sSeq (sIf (tOrM (tNotM (tst (e1 (xN 1) (fIsi "list")))) (tst (e2 (e1 (xN 1) fLen) (xN 0) fNe))) (sRet (xC (.bl false))) sNil)
    (sSeq (sFor (iSeq (xN 1)) (gNm 2) (sIf (tOrM (tNotM (tst (xCall fr_is_count (aCons (xN 2) aNil)))) (tst (e2 (xN 2) (xN 0) (fCmp fun i j => decide (j ≤ i))))) (sRet (xC (.bl false))) sNil) [2])
    (sSeq (sFor (iR1 (aCons (xCall fr_colour_many (aCons (xN 1) aNil)) aNil)) (gNm 2) (sIf (tst (e2 (xN 2) (xN 1) fNotIn)) (sRet (xC (.bl false))) sNil) [2])
    (sRet (xC (.bl true))))))
def fr_is_colouring : List D → FR := fnM 3 [] m_is_colouring
/-! ### cells_of: slots ['colouring', 'found', 'colour', 'part'] -/
abbrev st_cells_of : Stmt := top 6
def nn_cells_of : List Str := ["colouring", "found", "colour", "part"]
def m_cells_of : MS :=
    (sSeq (sAsg (xLc (iR1 (aCons (xCall fr_colour_many (aCons (xN 0) aNil)) aNil)) (gNm 2) tTrue (eOp aNil fLst) [2]) (gNm 1))
    (sSeq (sFor (iEn (aCons (xN 0) aNil)) (gTp 2 (gsCons (gNm 3) (gsCons (gNm 2) gsNil))) (sExpr (eMu 1 (pIx 1 (pNm 1) (xN 2)) (aCons (xN 3) aNil) mAppend)) [2, 3])
    (sRet (xMv 1))))
def fr_cells_of : List D → FR := fnM 4 [] m_cells_of
/-! ### trace_of: slots ['colouring', 'cell'] -/
abbrev st_trace_of : Stmt := top 7
def nn_trace_of : List Str := ["colouring", "cell"]
def m_trace_of : MS :=
    (sRet (xLc (iSeq (xCall fr_cells_of (aCons (xN 0) aNil))) (gNm 1) tTrue (e1 (xN 1) fLen) [1]))
def fr_trace_of : List D → FR := fnM 2 [] m_trace_of
/-! ### is_discrete: slots ['colouring'] -/
abbrev st_is_discrete : Stmt := top 8
def nn_is_discrete : List Str := ["colouring"]
def m_is_discrete : MS :=
    (sRet (e2 (xCall fr_colour_many (aCons (xN 0) aNil)) (e1 (xN 0) fLen) fEq))
def fr_is_discrete : List D → FR := fnM 1 [] m_is_discrete
/-! ### is_finer: slots ['colouring', 'other', 'met', 'colour', 'far'] -/
abbrev st_is_finer : Stmt := top 9
def nn_is_finer : List Str := ["colouring", "other", "met", "colour", "far"]
def m_is_finer : MS :=
    (sSeq (sAsg xDNew (gNm 2))
    (sSeq (sFor (iZp (aCons (xN 0) (aCons (xN 1) aNil))) (gTp 2 (gsCons (gNm 3) (gsCons (gNm 4) gsNil))) (sIf (tst (e2 (eMuG ownK 2 (pNm 2) (aCons (xN 3) (aCons (xN 4) aNil)) mSetd) (xN 4) fNe)) (sRet (xC (.bl false))) sNil) [3, 4])
    (sRet (xC (.bl true)))))
def fr_is_finer : List D → FR := fnM 5 [] m_is_finer
/-! ### keeps_sequence: slots ['colouring', 'other', 'part', 'far', 'second', 'beyond'] -/
abbrev st_keeps_sequence : Stmt := top 10
def nn_keeps_sequence : List Str := ["colouring", "other", "part", "far", "second", "beyond"]
def m_keeps_sequence : MS :=
    (sSeq (sFor (iEn (aCons (xN 1) aNil)) (gTp 2 (gsCons (gNm 2) (gsCons (gNm 3) gsNil))) (sFor (iEn (aCons (xN 1) aNil)) (gTp 2 (gsCons (gNm 4) (gsCons (gNm 5) gsNil))) (sIf (tAndM (tst (e2 (xN 3) (xN 5) (fCmp fun i j => decide (i < j)))) (tst (e2 (e2 (xN 0) (xN 2) fIx) (e2 (xN 0) (xN 4) fIx) (fCmp fun i j => decide (j ≤ i))))) (sRet (xC (.bl false))) sNil) [4, 5]) [2, 3, 4, 5])
    (sRet (xC (.bl true))))
def fr_keeps_sequence : List D → FR := fnM 6 [] m_keeps_sequence
/-! ### colouring_led: slots ['colouring', 'numbering', 'found', 'colour', 'part'] -/
abbrev st_colouring_led : Stmt := top 11
def nn_colouring_led : List Str := ["colouring", "numbering", "found", "colour", "part"]
def m_colouring_led : MS :=
    (sSeq (sAsg (xLc (iSeq (xN 0)) (gNm 3) tTrue (xC (.int 0)) [3]) (gNm 2))
    (sSeq (sFor (iEn (aCons (xN 0) aNil)) (gTp 2 (gsCons (gNm 4) (gsCons (gNm 3) gsNil))) (sAsg (xN 3) (gSb 2 (pNm 2) (e2 (xN 1) (xN 4) fIx))) [3, 4])
    (sRet (xMv 2))))
def fr_colouring_led : List D → FR := fnM 5 [] m_colouring_led
/-! ### _law_pot: slots ['_law_script', '_law_k', '_law_cell', '_law_start'] -/
abbrev st__law_pot : Stmt := top 13
def nn__law_pot : List Str := ["_law_script", "_law_k", "_law_cell", "_law_start"]
def m__law_pot : MS :=
    (sSeq (sAsg (e2 (e2 (xC (.int 613)) (xN 1) fMul) (xC (.int 41)) fAdd) (gNm 2))
    (sSeq (sIf (tst (e2 (xN 1) (e1 (xN 0) fLen) (fCmp fun i j => decide (i < j)))) (sAsg (e1 (e2 (xN 0) (xN 1) fIx) fAbs) (gNm 2)) sNil)
    (sSeq (sAsg (e2 (e2 (e1 (e2 (e2 (e2 (e2 (e1 (xN 2) fInt) (xC (.int 2147483549)) fMod) (xC (.int 40014)) fMul) (e2 (xC (.int 9221)) (xN 1) fMul) fAdd) (xC (.int 53)) fAdd) fInt) (xC (.int 2147483563)) fMod) (xC (.int 1)) fAdd) (gNm 3))
    (sRet (eOp (aCons (eOp (aCons (xC (.int 0)) (aCons (e2 (xN 2) (e2 (xC (.int 10)) (xC (.int 18)) fPow) fSub) aNil)) fMax) (aCons (xN 3) aNil)) fLst)))))
def fr__law_pot : List D → FR := fnM 4 [] m__law_pot
/-! ### _law_draw: slots ['_law_pot_here', '_law_sides', '_law_digit'] -/
abbrev st__law_draw : Stmt := top 14
def nn__law_draw : List Str := ["_law_pot_here", "_law_sides", "_law_digit"]
def m__law_draw : MS :=
    (sSeq (sIf (tst (e2 (e2 (xN 0) (xC (.int 0)) fIx) (xC (.int 0)) (fCmp fun i j => decide (j < i)))) (sSeq (sAsg (e2 (e2 (xN 0) (xC (.int 0)) fIx) (xN 1) fDivmod) (gTp 2 (gsCons (gSb 0 (pNm 0) (xC (.int 0))) (gsCons (gNm 2) gsNil))))
    (sRet (xN 2))) sNil)
    (sSeq (sAsg (e2 (e1 (e2 (e2 (e2 (xN 0) (xC (.int 1)) fIx) (xC (.int 39373)) fMul) (xC (.int 9221)) fAdd) fInt) (xC (.int 2147483587)) fMod) (gSb 0 (pNm 0) (xC (.int 1))))
    (sRet (e2 (e1 (e2 (e2 (e1 (e2 (e2 (xN 0) (xC (.int 1)) fIx) (e2 (xN 0) (xC (.int 1)) fIx) fMul) fInt) (xC (.int 2147483563)) fMod) (xC (.int 17)) fDiv) fInt) (xN 1) fMod))))
def fr__law_draw : List D → FR := fnM 3 [0] m__law_draw
/-! ### _law_row: slots ['_law_pot_here', '_law_size', '_law_left', '_law_row_here', '_law_turn'] -/
abbrev st__law_row : Stmt := top 15
def nn__law_row : List Str := ["_law_pot_here", "_law_size", "_law_left", "_law_row_here", "_law_turn"]
def m__law_row : MS :=
    (sSeq (sPar (aCons (e1 (xN 1) fRg) (aCons (eOp aNil fLst) aNil)) [2, 3])
    (sSeq (sFor (iR1 (aCons (xN 1) aNil)) (gNm 4) (sExpr (eMu 3 (pNm 3) (aCons (eMu 2 (pNm 2) (aCons (xCallE [0] fr__law_draw (bPl 0 (bVl (e1 (xN 2) fLen) bNil))) aNil) mPopAt) aNil) mAppend)) [4])
    (sRet (xMv 3))))
def fr__law_row : List D → FR := fnM 5 [0] m__law_row
/-! ### _law_ranked: slots ['_law_keys', '_law_unlike', '_law_key'] -/
abbrev st__law_ranked : Stmt := top 16
def nn__law_ranked : List Str := ["_law_keys", "_law_unlike", "_law_key"]
def m__law_ranked : MS :=
    (sSeq (sAsg (eOp aNil fLst) (gNm 1))
    (sSeq (sFor (iSeq (e1 (xN 0) (fInts gSort))) (gNm 2) (sIf (tOrM (tst (e2 (xN 1) (eOp aNil fLst) fEq)) (tst (e2 (e2 (xN 1) (e1 (xC (.int 1)) fNeg) fIx) (xN 2) fNe))) (sExpr (eMu 1 (pNm 1) (aCons (xN 2) aNil) mAppend)) sNil) [2])
    (sRet (xLc (iSeq (xN 0)) (gNm 2) tTrue (e2 (xL (xN 1)) (xN 2) fIndex) [2]))))
def fr__law_ranked : List D → FR := fnM 3 [] m__law_ranked
/-! ### _law_tint: slots ['_law_pot_here', '_law_size', '_law_wide', '_law_at'] -/
abbrev st__law_tint : Stmt := top 17
def nn__law_tint : List Str := ["_law_pot_here", "_law_size", "_law_wide", "_law_at"]
def m__law_tint : MS :=
    (sSeq (sAsg (e2 (eOp (aCons (xC (.int 1)) (aCons (xC (.int 1)) (aCons (xC (.int 2)) (aCons (xC (.int 3)) (aCons (e2 (xN 1) (xC (.int 1)) fAdd) aNil))))) fLst) (xCallE [0] fr__law_draw (bPl 0 (bVl (xC (.int 5)) bNil))) fIx) (gNm 2))
    (sRet (xCall fr__law_ranked (aCons (xLc (iR1 (aCons (xN 1) aNil)) (gNm 3) tTrue (xCallE [0] fr__law_draw (bPl 0 (bVl (xN 2) bNil))) [3]) aNil))))
def fr__law_tint : List D → FR := fnM 4 [0] m__law_tint
/-! ### _law_cells: slots ['_law_tint_here', '_law_found', '_law_colour', '_law_cell', '_law_at', '_law_one'] -/
abbrev st__law_cells : Stmt := top 18
def nn__law_cells : List Str := ["_law_tint_here", "_law_found", "_law_colour", "_law_cell", "_law_at", "_law_one"]
def m__law_cells : MS :=
    (sSeq (sAsg (eOp aNil fLst) (gNm 1))
    (sSeq (sFor (iR1 (aCons (e1 (xN 0) fLen) aNil)) (gNm 2) (sSeq (sAsg (xLc (iEn (aCons (xN 0) aNil)) (gTp 2 (gsCons (gNm 4) (gsCons (gNm 5) gsNil))) (tst (e2 (xN 5) (xN 2) fEq)) (xN 4) [4, 5]) (gNm 3))
    (sIf (tst (e2 (xN 3) (eOp aNil fLst) fNe)) (sExpr (eMu 1 (pNm 1) (aCons (xMv 3) aNil) mAppend)) sNil)) [2, 3, 4, 5])
    (sRet (xMv 1))))
def fr__law_cells : List D → FR := fnM 6 [] m__law_cells
/-! ### _law_near: slots ['_law_pot_here', '_law_tint_here', '_law_way', '_law_row_here', '_law_size', '_law_spot', '_law_strange', '_law_one', '_law_colour'] -/
abbrev st__law_near : Stmt := top 19
def nn__law_near : List Str := ["_law_pot_here", "_law_tint_here", "_law_way", "_law_row_here", "_law_size", "_law_spot", "_law_strange", "_law_one", "_law_colour"]
def m__law_near : MS :=
    (sSeq (sPar (aCons (xCallE [0] fr__law_draw (bPl 0 (bVl (xC (.int 12)) bNil))) (aCons (eOp (aCons (xN 1) (aCons (xC .non) (aCons (xC .non) aNil))) fSl) (aCons (e1 (xN 1) fLen) aNil))) [2, 3, 4])
    (sSeq (sAsg (xCallE [0] fr__law_draw (bPl 0 (bVl (e2 (xN 4) (xC (.int 1)) fAdd) bNil))) (gNm 5))
    (sSeq (sAsg (eOp (aCons (e1 (xC (.int 1)) fNeg) (aCons (xN 4) (aCons (e2 (xN 4) (xC (.int 1)) fAdd) (aCons (xC (.bl true)) (aCons (xC (.bl false)) (aCons (xC .non) (aCons (xC (.str "0")) (aCons (eOp (aCons (xC (.int 0)) aNil) fTup) (aCons (eOp (aCons (xC (.int 0)) aNil) fLst) (aCons (e2 (xC (.int 10)) (xC (.int 29)) fPow) (aCons (e1 (e2 (xC (.int 10)) (xC (.int 29)) fPow) fNeg) aNil))))))))))) fLst) (gNm 6))
    (sSeq (sAsg (e2 (xMv 6) (xCallE [0] fr__law_draw (bPl 0 (bVl (xC (.int 11)) bNil))) fIx) (gNm 7))
    (sSeq (sIf (tst (e2 (xN 2) (xC (.int 4)) (fCmp fun i j => decide (i < j)))) (sRet (xMv 3)) sNil)
    (sSeq (sIf (tst (e2 (xN 2) (xC (.int 4)) fEq)) (sRet (e1 (xN 3) fTuple)) sNil)
    (sSeq (sIf (tst (e2 (xN 2) (xC (.int 5)) fEq)) (sRet (e2 (e2 (eOp (aCons (xN 3) (aCons (xC .non) (aCons (xInt (xN 5)) aNil))) fSl) (eOp (aCons (xMv 7) aNil) fLst) fAdd) (eOp (aCons (xN 3) (aCons (xInt (xN 5)) (aCons (xC .non) aNil))) fSl) fAdd)) sNil)
    (sSeq (sIf (tst (e2 (xN 2) (xC (.int 6)) fEq)) (sRet (eOp (aCons (xN 3) (aCons (xC .non) (aCons (xInt (xN 5)) aNil))) fSl)) sNil)
    (sSeq (sIf (tst (e2 (xN 2) (xC (.int 7)) fEq)) (sRet (xLc (iSeq (xMv 3)) (gNm 8) tTrue (e2 (xN 8) (xC (.int 1)) fAdd) [8])) sNil)
    (sSeq (sIf (tst (e2 (xN 2) (xC (.int 8)) fEq)) (sRet (xLc (iSeq (xMv 3)) (gNm 8) tTrue (xIf (tst (e2 (xN 8) (xC (.int 1)) (fCmp fun i j => decide (i < j)))) (xN 8) (e2 (xN 8) (xC (.int 1)) fAdd)) [8])) sNil)
    (sSeq (sIf (tst (e2 (xN 2) (xC (.int 9)) fEq)) (sRet (xMv 7)) sNil)
    (sRet (e2 (e2 (eOp (aCons (xN 3) (aCons (xC .non) (aCons (xInt (xN 5)) aNil))) fSl) (eOp (aCons (xMv 7) aNil) fLst) fAdd) (eOp (aCons (xN 3) (aCons (xInt (e2 (xN 5) (xC (.int 1)) fAdd)) (aCons (xC .non) aNil))) fSl) fAdd)))))))))))))
def fr__law_near : List D → FR := fnM 9 [0] m__law_near
/-! ### _law_is_one: slots ['_law_size', '_law_thing', '_law_one', '_law_row_here', '_law_steps', '_law_at', '_law_step'] -/
abbrev st__law_is_one : Stmt := top 20
def nn__law_is_one : List Str := ["_law_size", "_law_thing", "_law_one", "_law_row_here", "_law_steps", "_law_at", "_law_step"]
def m__law_is_one : MS :=
    (sSeq (sIf (tOrM (tNotM (tst (e1 (xN 1) (fIsi "list")))) (tst (e2 (e1 (xN 1) fLen) (xN 0) fNe))) (sRet (xC (.bl false))) sNil)
    (sSeq (sFor (iSeq (xN 1)) (gNm 2) (sIf (tOrM (tNotM (tst (e1 (xN 2) (fIsi "int")))) (tst (e1 (xN 2) (fIsi "bool")))) (sRet (xC (.bl false))) sNil) [2])
    (sSeq (sAsg (e1 (xN 1) (fInts gSort)) (gNm 3))
    (sSeq (sAsg (xLc (iR1 (aCons (e2 (e1 (xN 3) fLen) (xC (.int 1)) fSub) aNil)) (gNm 5) tTrue (e2 (e2 (xN 3) (e2 (xN 5) (xC (.int 1)) fAdd) fIx) (e2 (xN 3) (xN 5) fIx) fSub) [5]) (gNm 4))
    (sRet (xAnd (e2 (eOp (aCons (xN 3) (aCons (xC .non) (aCons (xInt (xC (.int 1))) aNil))) fSl) (eOp (aCons (eOp aNil fLst) (aCons (eOp (aCons (xC (.int 0)) aNil) fLst) aNil)) fTup) fIn) (e2 (e1 (xLc (iSeq (xS 4)) (gNm 6) (tst (e2 (xN 6) (xC (.int 1)) (fCmp fun i j => decide (j < i)))) (xN 6) [6]) fLen) (xC (.int 0)) fEq)))))))
def fr__law_is_one : List D → FR := fnM 7 [] m__law_is_one
/-! ### _law_compared: slots ['_law_tint_here', '_law_far', '_law_finer', '_law_keeps', '_law_a', '_law_one', '_law_b', '_law_other'] -/
abbrev st__law_compared : Stmt := top 21
def nn__law_compared : List Str := ["_law_tint_here", "_law_far", "_law_finer", "_law_keeps", "_law_a", "_law_one", "_law_b", "_law_other"]
def m__law_compared : MS :=
    (sSeq (sAsg (eOp (aCons (xC (.bl true)) (aCons (xC (.bl true)) aNil)) fTup) (gTp 2 (gsCons (gNm 2) (gsCons (gNm 3) gsNil))))
    (sSeq (sFor (iEn (aCons (xN 0) aNil)) (gTp 2 (gsCons (gNm 4) (gsCons (gNm 5) gsNil))) (sFor (iEn (aCons (xN 0) aNil)) (gTp 2 (gsCons (gNm 6) (gsCons (gNm 7) gsNil))) (sSeq (sIf (tAndM (tst (e2 (xN 5) (xN 7) fEq)) (tst (e2 (e2 (xN 1) (xN 4) fIx) (e2 (xN 1) (xN 6) fIx) fNe))) (sAsg (xC (.bl false)) (gNm 2)) sNil)
    (sIf (tAndM (tst (e2 (e2 (xN 1) (xN 4) fIx) (e2 (xN 1) (xN 6) fIx) (fCmp fun i j => decide (i < j)))) (tst (e2 (xN 5) (xN 7) (fCmp fun i j => decide (j ≤ i))))) (sAsg (xC (.bl false)) (gNm 3)) sNil)) [6, 7]) [4, 5, 6, 7])
    (sRet (eOp (aCons (xN 2) (aCons (xN 3) aNil)) fLst))))
def fr__law_compared : List D → FR := fnM 8 [] m__law_compared
/-! ### _law_coarser: slots ['_law_pot_here', '_law_tint_here', '_law_wide', '_law_colour'] -/
abbrev st__law_coarser : Stmt := top 22
def nn__law_coarser : List Str := ["_law_pot_here", "_law_tint_here", "_law_wide", "_law_colour"]
def m__law_coarser : MS :=
    (sSeq (sAsg (e2 (xC (.int 1)) (xCallE [0] fr__law_draw (bPl 0 (bVl (xC (.int 3)) bNil))) fAdd) (gNm 2))
    (sSeq (sIf (tst (e2 (xCallE [0] fr__law_draw (bPl 0 (bVl (xC (.int 2)) bNil))) (xC (.int 0)) fEq)) (sRet (xCall fr__law_ranked (aCons (xLc (iSeq (xN 1)) (gNm 3) tTrue (e2 (xN 3) (xN 2) fDiv) [3]) aNil))) sNil)
    (sRet (xCall fr__law_ranked (aCons (xLc (iSeq (xN 1)) (gNm 3) tTrue (e2 (e1 (xN 3) fInt) (xN 2) fMod) [3]) aNil)))))
def fr__law_coarser : List D → FR := fnM 4 [0] m__law_coarser
/-! ### _law_right: slots ['_law_pot_here', '_law_more', '_law_size', '_law_wide', '_law_at', '_law_told', '_law_tint_here', '_law_far', '_law_lead', '_law_asked', '_law_thing', '_law_shown', '_law_near_here', '_law_other', '_law_due', '_law_sizes', '_law_cell', '_law_led', '_law_colour'] -/
abbrev st__law_right : Stmt := top 23
def nn__law_right : List Str := ["_law_pot_here", "_law_more", "_law_size", "_law_wide", "_law_at", "_law_told", "_law_tint_here", "_law_far", "_law_lead", "_law_asked", "_law_thing", "_law_shown", "_law_near_here", "_law_other", "_law_due", "_law_sizes", "_law_cell", "_law_led", "_law_colour"]
def m__law_right : MS :=
    (sSeq (sAsg (e2 (eOp (aCons (xC (.int 0)) (aCons (xC (.int 1)) (aCons (xC (.int 2)) (aCons (xC (.int 3)) (aCons (xC (.int 4)) (aCons (xC (.int 5)) (aCons (xC (.int 6)) (aCons (xC (.int 24)) aNil)))))))) fLst) (xCallE [0] fr__law_draw (bPl 1 (bVl (xC (.int 8)) bNil))) fIx) (gNm 2))
    (sSeq (sAsg (xLc (iR1 (aCons (e2 (xC (.int 25)) (xCallE [0] fr__law_draw (bPl 1 (bVl (xC (.int 9)) bNil))) fAdd) aNil)) (gNm 4) tTrue (xC (.int 0)) [4]) (gNm 3))
    (sSeq (sAsg (eOp (aCons (xCall fr_is_colouring (aCons (e1 (xN 3) fLen) (aCons (xN 3) aNil))) (aCons (xCall fr_is_colouring (aCons (e2 (e1 (xN 3) fLen) (xC (.int 1)) fAdd) (aCons (xN 3) aNil))) aNil)) fLst) (gNm 5))
    (sSeq (sIf (tst (e2 (e1 (xN 5) fRepr) (e1 (eOp (aCons (xC (.bl true)) (aCons (xC (.bl false)) aNil)) fLst) fRepr) fNe)) (sRet (xC (.bl false))) sNil)
    (sSeq (sAsg (xCallE [0] fr__law_tint (bPl 0 (bVl (xN 2) bNil))) (gNm 6))
    (sSeq (sAsg (xIf (tst (e2 (xCallE [0] fr__law_draw (bPl 1 (bVl (xC (.int 2)) bNil))) (xC (.int 0)) fEq)) (xCallE [0] fr__law_tint (bPl 1 (bVl (xN 2) bNil))) (xCallE [0] fr__law_coarser (bPl 1 (bVl (xS 6) bNil)))) (gNm 7))
    (sSeq (sPar (aCons (xCallE [0] fr__law_row (bPl 1 (bVl (xN 2) bNil))) (aCons (e2 (xN 2) (e2 (xCallE [0] fr__law_draw (bPl 1 (bVl (xC (.int 5)) bNil))) (xC (.int 4)) fDiv) fAdd) aNil)) [8, 9])
    (sSeq (sFor (iSeq (eOp (aCons (xS 6) (aCons (xCallE [0] fr__law_near (bPl 0 (bVl (xS 6) bNil))) (aCons (xCallE [0] fr__law_near (bPl 1 (bVl (xS 7) bNil))) aNil))) fTup)) (gNm 10) (sSeq (sAsg (e1 (xN 10) fRepr) (gNm 11))
    (sSeq (sAsg (eOp (aCons (xCall fr_is_colouring (aCons (xN 2) (aCons (xN 10) aNil))) (aCons (xCall (fun ds => fr_is_colouring (permL [1, 0] ds)) (aCons (xN 10) (aCons (xN 9) aNil))) aNil)) fLst) (gNm 5))
    (sSeq (sIf (tst (e2 (e1 (xN 5) fRepr) (e1 (eOp (aCons (xCall fr__law_is_one (aCons (xN 2) (aCons (xN 10) aNil))) (aCons (xCall fr__law_is_one (aCons (xN 9) (aCons (xN 10) aNil))) aNil)) fLst) fRepr) fNe)) (sRet (xC (.bl false))) sNil)
    (sIf (tst (e2 (e1 (xN 10) fRepr) (xN 11) fNe)) (sRet (xC (.bl false))) sNil)))) [10, 11, 5])
    (sSeq (sFor (iSeq (eOp (aCons (eOp (aCons (xS 6) (aCons (xS 7) aNil)) fTup) (aCons (eOp (aCons (xS 7) (aCons (xS 6) aNil)) fTup) (aCons (eOp (aCons (xS 6) (aCons (xS 6) aNil)) fTup) aNil))) fTup)) (gTp 2 (gsCons (gNm 12) (gsCons (gNm 13) gsNil))) (sSeq (sAsg (eOp (aCons (xCall fr_is_finer (aCons (eOp (aCons (xN 12) (aCons (xC .non) (aCons (xC .non) aNil))) fSl) (aCons (eOp (aCons (xN 13) (aCons (xC .non) (aCons (xC .non) aNil))) fSl) aNil))) (aCons (xCall fr_keeps_sequence (aCons (eOp (aCons (xN 12) (aCons (xC .non) (aCons (xC .non) aNil))) fSl) (aCons (eOp (aCons (xN 13) (aCons (xC .non) (aCons (xC .non) aNil))) fSl) aNil))) aNil)) fLst) (gNm 5))
    (sIf (tst (e2 (e1 (xN 5) fRepr) (e1 (xCall fr__law_compared (aCons (xN 12) (aCons (xN 13) aNil))) fRepr) fNe)) (sRet (xC (.bl false))) sNil)) [12, 13, 5])
    (sSeq (sAsg (eOp (aCons (xCall (fun ds => fr_is_finer (permL [1, 0] ds)) (aCons (xN 7) (aCons (xN 6) aNil))) (aCons (xCall (fun ds => fr_keeps_sequence (permL [1, 0] ds)) (aCons (xN 7) (aCons (xN 6) aNil))) aNil)) fLst) (gNm 5))
    (sSeq (sIf (tst (e2 (e1 (xN 5) fRepr) (e1 (xCall fr__law_compared (aCons (xN 6) (aCons (xN 7) aNil))) fRepr) fNe)) (sRet (xC (.bl false))) sNil)
    (sSeq (sAsg (xCall fr__law_cells (aCons (xN 6) aNil)) (gNm 14))
    (sSeq (sAsg (xLc (iSeq (xS 14)) (gNm 16) tTrue (e1 (xN 16) fLen) [16]) (gNm 15))
    (sSeq (sAsg (eOp (aCons (xCall fr_cells_of (aCons (xN 6) aNil)) (aCons (xCall (fun ds => fr_trace_of (permL [0] ds)) (aCons (xN 6) aNil)) (aCons (xCall (fun ds => fr_is_discrete (permL [0] ds)) (aCons (xN 6) aNil)) aNil))) fLst) (gNm 5))
    (sSeq (sIf (tst (e2 (e1 (xN 5) fRepr) (e1 (eOp (aCons (xN 14) (aCons (xN 15) (aCons (e2 (e1 (xN 14) fLen) (xN 2) fEq) aNil))) fLst) fRepr) fNe)) (sRet (xC (.bl false))) sNil)
    (sSeq (sForN (e2 (xMv 5) (xC (.int 0)) fIx) (gNm 16) (sExpr (eMu 16 (pNm 16) (aCons (xC .non) aNil) mAppend)) [16])
    (sSeq (sPar (aCons (xLc (iSeq (xS 6)) (gNm 4) tTrue (xC (.int 0)) [4]) (aCons (e1 (eOp (aCons (xS 6) (aCons (xN 8) aNil)) fLst) fRepr) aNil)) [17, 11])
    (sSeq (sFor (iEn (aCons (xS 6) aNil)) (gTp 2 (gsCons (gNm 4) (gsCons (gNm 18) gsNil))) (sAsg (xN 18) (gSb 17 (pNm 17) (e2 (xN 8) (xN 4) fIx))) [4, 18])
    (sSeq (sIf (tst (e2 (e1 (eOp (aCons (xCall (fun ds => fr_cells_of (permL [0] ds)) (aCons (xN 6) aNil)) (aCons (xCall fr_colouring_led (aCons (xN 6) (aCons (xN 8) aNil))) aNil)) fLst) fRepr) (e1 (eOp (aCons (xN 14) (aCons (xN 17) aNil)) fLst) fRepr) fNe)) (sRet (xC (.bl false))) sNil)
    (sSeq (sAsg (eOp (aCons (xCall fr_colouring_led (aCons (xN 6) (aCons (e1 (xN 2) fRg) aNil))) (aCons (xCall fr_colouring_led (aCons (xN 6) (aCons (xN 8) aNil))) aNil)) fLst) (gNm 5))
    (sSeq (sIf (tst (e2 (e1 (xN 5) fRepr) (e1 (eOp (aCons (xS 6) (aCons (xN 17) aNil)) fLst) fRepr) fNe)) (sRet (xC (.bl false))) sNil)
    (sSeq (sExpr (eMu 5 (pIx 5 (pNm 5) (xC (.int 0))) (aCons (xC .non) aNil) mAppend))
    (sRet (xAnd (e2 (xCall (fun ds => fr_colouring_led (permL [1, 0] ds)) (aCons (xN 8) (aCons (xN 6) aNil))) (xN 17) fEq) (e2 (e1 (eOp (aCons (xS 6) (aCons (xN 8) aNil)) fLst) fRepr) (xN 11) fEq)))))))))))))))))))))))))
def fr__law_right : List D → FR := fnM 19 [0, 1] m__law_right
/-! ### law: slots ['_law_script'] -/
abbrev st_law : Stmt := top 24
def nn_law : List Str := ["_law_script"]
def m_law : MS :=
    (sRet (xCallT fr__law_right (aCons (xCall fr__law_pot (aCons (xN 0) (aCons (xC (.int 0)) aNil))) (aCons (xCall fr__law_pot (aCons (xN 0) (aCons (xC (.int 1)) aNil))) aNil))))
def fr_law : List D → FR := fnM 1 [] m_law
section
variable {P : Program} {w : World} {K : Frag} {mg : Str → Option Value} {base : Heap}
theorem sc_is_integer : FnScope nn_is_integer ["value"] (defScope st_is_integer) := ⟨rfl, rfl, rfl, by decide +kernel, rfl, by decide +kernel, by decide +kernel⟩
theorem body_is_integer (g : Fre mg)  {J : List (Nat × V)} (hJ : J.map (·.1) = []) : SSs (ctxF P w K mg base nn_is_integer (defScope st_is_integer) 0) J (defBody st_is_integer) m_is_integer := by
  have nd : nn_is_integer.Nodup := by decide
  have hp : ∀ i, ([] : List Nat).contains i = false → notPin J i := fun i h => notPin_of hJ h
  have hps : ∀ is : List Nat, (is.all fun i => !([] : List Nat).contains i) = true → ∀ i ∈ is, notPin J i := fun is h i hi => hp i (by simpa using List.all_eq_true.mp h i hi)
  exact (ss_one (ss_ret (se_and (se_isi "int" rfl g.free_isinstance rfl g.free_int bi_int (se_name 0)) (se_one (se_not (se_isi "bool" rfl g.free_isinstance rfl g.free_bool bi_bool (se_name 0)))))))
theorem call_is_integer (g : Fre mg)  {f : Addr} {fd : FuncData} (F : FunD K "is_integer" "is_integer" (defArgs st_is_integer) (defBody st_is_integer) (defScope st_is_integer) [] [] f fd) (hm : mg "is_integer" = some (.ref f)) : CalX P w K mg base 1 "is_integer" ["value"] [] fr_is_integer (defArgs st_is_integer) (defBody st_is_integer) (defScope st_is_integer) :=
  ⟨f, fd, F, fnV_ok F sc_is_integer (by decide) (by decide) (by decide) (fun J hJ => body_is_integer g  hJ), hm, F.bindsN fun _ _ _ _ _ _ us hl => match us, hl with | [_], _ => rfl⟩
theorem sc_is_count : FnScope nn_is_count ["value"] (defScope st_is_count) := ⟨rfl, rfl, rfl, by decide +kernel, rfl, by decide +kernel, by decide +kernel⟩
theorem body_is_count (g : Fre mg) (C_is_integer : CalX P w K mg base 1 "is_integer" ["value"] [] fr_is_integer (defArgs st_is_integer) (defBody st_is_integer) (defScope st_is_integer)) {J : List (Nat × V)} (hJ : J.map (·.1) = []) : SSs (ctxF P w K mg base nn_is_count (defScope st_is_count) 1) J (defBody st_is_count) m_is_count := by
  have nd : nn_is_count.Nodup := by decide
  have hp : ∀ i, ([] : List Nat).contains i = false → notPin J i := fun i h => notPin_of hJ h
  have hps : ∀ is : List Nat, (is.all fun i => !([] : List Nat).contains i) = true → ∀ i ∈ is, notPin J i := fun is h i hi => hp i (by simpa using List.all_eq_true.mp h i hi)
  exact (ss_one (ss_ret (se_and (se_call ((C_is_integer).cal (show (1 : Nat) ≤ 1 by decide)) rfl (sa_cons (se_name 0) sa_nil) (lenA_cons lenA_nil)) (se_one (se_ge (se_name 0) se_int)))))
theorem call_is_count (g : Fre mg) (C_is_integer : CalX P w K mg base 1 "is_integer" ["value"] [] fr_is_integer (defArgs st_is_integer) (defBody st_is_integer) (defScope st_is_integer)) {f : Addr} {fd : FuncData} (F : FunD K "is_count" "is_count" (defArgs st_is_count) (defBody st_is_count) (defScope st_is_count) [] [] f fd) (hm : mg "is_count" = some (.ref f)) : CalX P w K mg base 2 "is_count" ["value"] [] fr_is_count (defArgs st_is_count) (defBody st_is_count) (defScope st_is_count) :=
  ⟨f, fd, F, fnV_ok F sc_is_count (by decide) (by decide) (by decide) (fun J hJ => body_is_count g C_is_integer hJ), hm, F.bindsN fun _ _ _ _ _ _ us hl => match us, hl with | [_], _ => rfl⟩
theorem sc_colour_many : FnScope nn_colour_many ["colouring"] (defScope st_colour_many) := ⟨rfl, rfl, rfl, by decide +kernel, rfl, by decide +kernel, by decide +kernel⟩
theorem body_colour_many (g : Fre mg)  {J : List (Nat × V)} (hJ : J.map (·.1) = []) : SSs (ctxF P w K mg base nn_colour_many (defScope st_colour_many) 2) J (defBody st_colour_many) m_colour_many := by
  have nd : nn_colour_many.Nodup := by decide
  have hp : ∀ i, ([] : List Nat).contains i = false → notPin J i := fun i h => notPin_of hJ h
  have hps : ∀ is : List Nat, (is.all fun i => !([] : List Nat).contains i) = true → ∀ i ∈ is, notPin J i := fun is h i hi => hp i (by simpa using List.all_eq_true.mp h i hi)
  exact (ss_one (ss_ret (se_add (se_max rfl rfl g.free_max (sa_cons (se_add (se_lst (sa_cons (se_neg se_int) sa_nil)) (se_name 0)) sa_nil)) se_int)))
theorem call_colour_many (g : Fre mg)  {f : Addr} {fd : FuncData} (F : FunD K "colour_many" "colour_many" (defArgs st_colour_many) (defBody st_colour_many) (defScope st_colour_many) [] [] f fd) (hm : mg "colour_many" = some (.ref f)) : CalX P w K mg base 3 "colour_many" ["colouring"] [] fr_colour_many (defArgs st_colour_many) (defBody st_colour_many) (defScope st_colour_many) :=
  ⟨f, fd, F, fnV_ok F sc_colour_many (by decide) (by decide) (by decide) (fun J hJ => body_colour_many g  hJ), hm, F.bindsN fun _ _ _ _ _ _ us hl => match us, hl with | [_], _ => rfl⟩
theorem sc_is_colouring : FnScope nn_is_colouring ["many", "value"] (defScope st_is_colouring) := ⟨rfl, rfl, rfl, by decide +kernel, rfl, by decide +kernel, by decide +kernel⟩
theorem body_is_colouring (g : Fre mg) (C_is_count : CalX P w K mg base 2 "is_count" ["value"] [] fr_is_count (defArgs st_is_count) (defBody st_is_count) (defScope st_is_count)) (C_colour_many : CalX P w K mg base 3 "colour_many" ["colouring"] [] fr_colour_many (defArgs st_colour_many) (defBody st_colour_many) (defScope st_colour_many)) {J : List (Nat × V)} (hJ : J.map (·.1) = []) : SSs (ctxF P w K mg base nn_is_colouring (defScope st_is_colouring) 3) J (defBody st_is_colouring) m_is_colouring := by
  have nd : nn_is_colouring.Nodup := by decide
  have hp : ∀ i, ([] : List Nat).contains i = false → notPin J i := fun i h => notPin_of hJ h
  have hps : ∀ is : List Nat, (is.all fun i => !([] : List Nat).contains i) = true → ∀ i ∈ is, notPin J i := fun is h i hi => hp i (by simpa using List.all_eq_true.mp h i hi)
  exact (ss_cons (ss_if (sw_or (st_not (st_val (se_isi "list" rfl g.free_isinstance rfl g.free_list bi_list (se_name 1)))) (sw_or1 (st_ne (se_len rfl g.free_len (se_name 1)) (se_name 0)))).st (ss_one (ss_ret se_bl)) ss_nil)
    (ss_cons (ss_for [2] rfl rfl (si_seq (se_name 1)) (sg_name 2 nd (hp := (hp 2 rfl))) (ss_one (ss_if (sw_or (st_not (st_val (se_call ((C_is_count).cal (show (2 : Nat) ≤ 3 by decide)) rfl (sa_cons (se_name 2) sa_nil) (lenA_cons lenA_nil)))) (sw_or1 (st_ge (se_name 2) (se_name 0)))).st (ss_one (ss_ret se_bl)) ss_nil)))
    (ss_cons (ss_for [2] rfl rfl (si_range1 rfl g.free_range (sa_cons (se_call ((C_colour_many).cal (show (3 : Nat) ≤ 3 by decide)) rfl (sa_cons (se_name 1) sa_nil) (lenA_cons lenA_nil)) sa_nil)) (sg_name 2 nd (hp := (hp 2 rfl))) (ss_one (ss_if (st_notin (se_name 2) (se_name 1)) (ss_one (ss_ret se_bl)) ss_nil)))
    (ss_one (ss_ret se_bl)))))
theorem call_is_colouring (g : Fre mg) (C_is_count : CalX P w K mg base 2 "is_count" ["value"] [] fr_is_count (defArgs st_is_count) (defBody st_is_count) (defScope st_is_count)) (C_colour_many : CalX P w K mg base 3 "colour_many" ["colouring"] [] fr_colour_many (defArgs st_colour_many) (defBody st_colour_many) (defScope st_colour_many)) {f : Addr} {fd : FuncData} (F : FunD K "is_colouring" "is_colouring" (defArgs st_is_colouring) (defBody st_is_colouring) (defScope st_is_colouring) [] [] f fd) (hm : mg "is_colouring" = some (.ref f)) : CalX P w K mg base 4 "is_colouring" ["many", "value"] [] fr_is_colouring (defArgs st_is_colouring) (defBody st_is_colouring) (defScope st_is_colouring) :=
  ⟨f, fd, F, fnV_ok F sc_is_colouring (by decide) (by decide) (by decide) (fun J hJ => body_is_colouring g C_is_count C_colour_many hJ), hm, F.bindsN fun _ _ _ _ _ _ us hl => match us, hl with | [_, _], _ => rfl⟩
theorem kb_is_colouring_1_0 (C : CalX P w K mg base 4 "is_colouring" ["many", "value"] [] fr_is_colouring (defArgs st_is_colouring) (defBody st_is_colouring) (defScope st_is_colouring)) : ∀ fd f, FunD K "is_colouring" "is_colouring" (defArgs st_is_colouring) (defBody st_is_colouring) (defScope st_is_colouring) [] [] f fd → KB fd ["many", "value"] ["value", "many"] [1, 0] := fun fd f F => kb_of F fun _ _ _ _ _ _ ws hl => match ws, hl with | [_, _], _ => rfl
theorem sc_cells_of : FnScope nn_cells_of ["colouring"] (defScope st_cells_of) := ⟨rfl, rfl, rfl, by decide +kernel, rfl, by decide +kernel, by decide +kernel⟩
theorem body_cells_of (g : Fre mg) (C_colour_many : CalX P w K mg base 3 "colour_many" ["colouring"] [] fr_colour_many (defArgs st_colour_many) (defBody st_colour_many) (defScope st_colour_many)) {J : List (Nat × V)} (hJ : J.map (·.1) = []) : SSs (ctxF P w K mg base nn_cells_of (defScope st_cells_of) 4) J (defBody st_cells_of) m_cells_of := by
  have nd : nn_cells_of.Nodup := by decide
  have hp : ∀ i, ([] : List Nat).contains i = false → notPin J i := fun i h => notPin_of hJ h
  have hps : ∀ is : List Nat, (is.all fun i => !([] : List Nat).contains i) = true → ∀ i ∈ is, notPin J i := fun is h i hi => hp i (by simpa using List.all_eq_true.mp h i hi)
  exact (ss_cons (ss_lc 1 [("colour", 2)] rfl nd rfl rfl (hp 1 rfl) (by intro env h; cases env; cases h; rfl) (si_range1 rfl g.free_range (sa_cons (se_call ((C_colour_many).cal (show (3 : Nat) ≤ 4 by decide)) rfl (sa_cons (se_name 0) sa_nil) (lenA_cons lenA_nil)) sa_nil)) (blkOk_by (N := nn_cells_of) (sc := defScope st_cells_of) (by decide +kernel)) (sn_name 2 nd (hp := (hp 2 rfl))) stl_nil (se_lst sa_nil) (by decide) (hps _ (by decide)))
    (ss_cons (ss_for [2, 3] rfl rfl (si_enum rfl g.free_enumerate (sa_cons (se_name 0) sa_nil)) (sg_tup rfl (sgs_cons (sg_name 3 nd (hp := (hp 3 rfl))) (sgs_cons (sg_name 2 nd (hp := (hp 2 rfl))) sgs_nil))) (ss_one (ss_expr (se_append (sp_ix (sp_name 1) (se_name 2)) (se_name 3)))))
    (ss_one (ss_ret (se_move 1)))))
theorem call_cells_of (g : Fre mg) (C_colour_many : CalX P w K mg base 3 "colour_many" ["colouring"] [] fr_colour_many (defArgs st_colour_many) (defBody st_colour_many) (defScope st_colour_many)) {f : Addr} {fd : FuncData} (F : FunD K "cells_of" "cells_of" (defArgs st_cells_of) (defBody st_cells_of) (defScope st_cells_of) [] [] f fd) (hm : mg "cells_of" = some (.ref f)) : CalX P w K mg base 5 "cells_of" ["colouring"] [] fr_cells_of (defArgs st_cells_of) (defBody st_cells_of) (defScope st_cells_of) :=
  ⟨f, fd, F, fnV_ok F sc_cells_of (by decide) (by decide) (by decide) (fun J hJ => body_cells_of g C_colour_many hJ), hm, F.bindsN fun _ _ _ _ _ _ us hl => match us, hl with | [_], _ => rfl⟩
theorem kb_cells_of_0 (C : CalX P w K mg base 5 "cells_of" ["colouring"] [] fr_cells_of (defArgs st_cells_of) (defBody st_cells_of) (defScope st_cells_of)) : ∀ fd f, FunD K "cells_of" "cells_of" (defArgs st_cells_of) (defBody st_cells_of) (defScope st_cells_of) [] [] f fd → KB fd ["colouring"] ["colouring"] [0] := fun fd f F => kb_of F fun _ _ _ _ _ _ ws hl => match ws, hl with | [_], _ => rfl
theorem sc_trace_of : FnScope nn_trace_of ["colouring"] (defScope st_trace_of) := ⟨rfl, rfl, rfl, by decide +kernel, rfl, by decide +kernel, by decide +kernel⟩
theorem body_trace_of (g : Fre mg) (C_cells_of : CalX P w K mg base 5 "cells_of" ["colouring"] [] fr_cells_of (defArgs st_cells_of) (defBody st_cells_of) (defScope st_cells_of)) {J : List (Nat × V)} (hJ : J.map (·.1) = []) : SSs (ctxF P w K mg base nn_trace_of (defScope st_trace_of) 5) J (defBody st_trace_of) m_trace_of := by
  have nd : nn_trace_of.Nodup := by decide
  have hp : ∀ i, ([] : List Nat).contains i = false → notPin J i := fun i h => notPin_of hJ h
  have hps : ∀ is : List Nat, (is.all fun i => !([] : List Nat).contains i) = true → ∀ i ∈ is, notPin J i := fun is h i hi => hp i (by simpa using List.all_eq_true.mp h i hi)
  exact (ss_one (ss_ret (se_lc [("cell", 1)] rfl nd (si_seq (se_call ((C_cells_of).cal (show (5 : Nat) ≤ 5 by decide)) rfl (sa_cons (se_name 0) sa_nil) (lenA_cons lenA_nil))) (blkOk_by (N := nn_trace_of) (sc := defScope st_trace_of) (by decide +kernel)) (sn_name 1 nd (hp := (hp 1 rfl))) stl_nil (se_len rfl g.free_len (se_name 1)) (by decide) (hps _ (by decide)))))
theorem call_trace_of (g : Fre mg) (C_cells_of : CalX P w K mg base 5 "cells_of" ["colouring"] [] fr_cells_of (defArgs st_cells_of) (defBody st_cells_of) (defScope st_cells_of)) {f : Addr} {fd : FuncData} (F : FunD K "trace_of" "trace_of" (defArgs st_trace_of) (defBody st_trace_of) (defScope st_trace_of) [] [] f fd) (hm : mg "trace_of" = some (.ref f)) : CalX P w K mg base 6 "trace_of" ["colouring"] [] fr_trace_of (defArgs st_trace_of) (defBody st_trace_of) (defScope st_trace_of) :=
  ⟨f, fd, F, fnV_ok F sc_trace_of (by decide) (by decide) (by decide) (fun J hJ => body_trace_of g C_cells_of hJ), hm, F.bindsN fun _ _ _ _ _ _ us hl => match us, hl with | [_], _ => rfl⟩
theorem kb_trace_of_0 (C : CalX P w K mg base 6 "trace_of" ["colouring"] [] fr_trace_of (defArgs st_trace_of) (defBody st_trace_of) (defScope st_trace_of)) : ∀ fd f, FunD K "trace_of" "trace_of" (defArgs st_trace_of) (defBody st_trace_of) (defScope st_trace_of) [] [] f fd → KB fd ["colouring"] ["colouring"] [0] := fun fd f F => kb_of F fun _ _ _ _ _ _ ws hl => match ws, hl with | [_], _ => rfl
theorem sc_is_discrete : FnScope nn_is_discrete ["colouring"] (defScope st_is_discrete) := ⟨rfl, rfl, rfl, by decide +kernel, rfl, by decide +kernel, by decide +kernel⟩
theorem body_is_discrete (g : Fre mg) (C_colour_many : CalX P w K mg base 3 "colour_many" ["colouring"] [] fr_colour_many (defArgs st_colour_many) (defBody st_colour_many) (defScope st_colour_many)) {J : List (Nat × V)} (hJ : J.map (·.1) = []) : SSs (ctxF P w K mg base nn_is_discrete (defScope st_is_discrete) 6) J (defBody st_is_discrete) m_is_discrete := by
  have nd : nn_is_discrete.Nodup := by decide
  have hp : ∀ i, ([] : List Nat).contains i = false → notPin J i := fun i h => notPin_of hJ h
  have hps : ∀ is : List Nat, (is.all fun i => !([] : List Nat).contains i) = true → ∀ i ∈ is, notPin J i := fun is h i hi => hp i (by simpa using List.all_eq_true.mp h i hi)
  exact (ss_one (ss_ret (se_eq (se_call ((C_colour_many).cal (show (3 : Nat) ≤ 6 by decide)) rfl (sa_cons (se_name 0) sa_nil) (lenA_cons lenA_nil)) (se_len rfl g.free_len (se_name 0)))))
theorem call_is_discrete (g : Fre mg) (C_colour_many : CalX P w K mg base 3 "colour_many" ["colouring"] [] fr_colour_many (defArgs st_colour_many) (defBody st_colour_many) (defScope st_colour_many)) {f : Addr} {fd : FuncData} (F : FunD K "is_discrete" "is_discrete" (defArgs st_is_discrete) (defBody st_is_discrete) (defScope st_is_discrete) [] [] f fd) (hm : mg "is_discrete" = some (.ref f)) : CalX P w K mg base 7 "is_discrete" ["colouring"] [] fr_is_discrete (defArgs st_is_discrete) (defBody st_is_discrete) (defScope st_is_discrete) :=
  ⟨f, fd, F, fnV_ok F sc_is_discrete (by decide) (by decide) (by decide) (fun J hJ => body_is_discrete g C_colour_many hJ), hm, F.bindsN fun _ _ _ _ _ _ us hl => match us, hl with | [_], _ => rfl⟩
theorem kb_is_discrete_0 (C : CalX P w K mg base 7 "is_discrete" ["colouring"] [] fr_is_discrete (defArgs st_is_discrete) (defBody st_is_discrete) (defScope st_is_discrete)) : ∀ fd f, FunD K "is_discrete" "is_discrete" (defArgs st_is_discrete) (defBody st_is_discrete) (defScope st_is_discrete) [] [] f fd → KB fd ["colouring"] ["colouring"] [0] := fun fd f F => kb_of F fun _ _ _ _ _ _ ws hl => match ws, hl with | [_], _ => rfl
theorem sc_is_finer : FnScope nn_is_finer ["colouring", "other"] (defScope st_is_finer) := ⟨rfl, rfl, rfl, by decide +kernel, rfl, by decide +kernel, by decide +kernel⟩
theorem body_is_finer (g : Fre mg)  {J : List (Nat × V)} (hJ : J.map (·.1) = []) : SSs (ctxF P w K mg base nn_is_finer (defScope st_is_finer) 7) J (defBody st_is_finer) m_is_finer := by
  have nd : nn_is_finer.Nodup := by decide
  have hp : ∀ i, ([] : List Nat).contains i = false → notPin J i := fun i h => notPin_of hJ h
  have hps : ∀ is : List Nat, (is.all fun i => !([] : List Nat).contains i) = true → ∀ i ∈ is, notPin J i := fun is h i hi => hp i (by simpa using List.all_eq_true.mp h i hi)
  exact (ss_cons (ss_asg se_dnew (sg_name 2 nd (hp := (hp 2 rfl))))
    (ss_cons (ss_for [3, 4] rfl rfl (si_zip rfl g.free_zip (sa_cons (se_name 0) (sa_cons (se_name 1) sa_nil))) (sg_tup rfl (sgs_cons (sg_name 3 nd (hp := (hp 3 rfl))) (sgs_cons (sg_name 4 nd (hp := (hp 4 rfl))) sgs_nil))) (ss_one (ss_if (st_ne (se_setd (sp_name 2) (se_name 3) (se_name 4)) (se_name 4)) (ss_one (ss_ret se_bl)) ss_nil)))
    (ss_one (ss_ret se_bl))))
theorem call_is_finer (g : Fre mg)  {f : Addr} {fd : FuncData} (F : FunD K "is_finer" "is_finer" (defArgs st_is_finer) (defBody st_is_finer) (defScope st_is_finer) [] [] f fd) (hm : mg "is_finer" = some (.ref f)) : CalX P w K mg base 8 "is_finer" ["colouring", "other"] [] fr_is_finer (defArgs st_is_finer) (defBody st_is_finer) (defScope st_is_finer) :=
  ⟨f, fd, F, fnV_ok F sc_is_finer (by decide) (by decide) (by decide) (fun J hJ => body_is_finer g  hJ), hm, F.bindsN fun _ _ _ _ _ _ us hl => match us, hl with | [_, _], _ => rfl⟩
theorem kb_is_finer_1_0 (C : CalX P w K mg base 8 "is_finer" ["colouring", "other"] [] fr_is_finer (defArgs st_is_finer) (defBody st_is_finer) (defScope st_is_finer)) : ∀ fd f, FunD K "is_finer" "is_finer" (defArgs st_is_finer) (defBody st_is_finer) (defScope st_is_finer) [] [] f fd → KB fd ["colouring", "other"] ["other", "colouring"] [1, 0] := fun fd f F => kb_of F fun _ _ _ _ _ _ ws hl => match ws, hl with | [_, _], _ => rfl
theorem sc_keeps_sequence : FnScope nn_keeps_sequence ["colouring", "other"] (defScope st_keeps_sequence) := ⟨rfl, rfl, rfl, by decide +kernel, rfl, by decide +kernel, by decide +kernel⟩
theorem body_keeps_sequence (g : Fre mg)  {J : List (Nat × V)} (hJ : J.map (·.1) = []) : SSs (ctxF P w K mg base nn_keeps_sequence (defScope st_keeps_sequence) 8) J (defBody st_keeps_sequence) m_keeps_sequence := by
  have nd : nn_keeps_sequence.Nodup := by decide
  have hp : ∀ i, ([] : List Nat).contains i = false → notPin J i := fun i h => notPin_of hJ h
  have hps : ∀ is : List Nat, (is.all fun i => !([] : List Nat).contains i) = true → ∀ i ∈ is, notPin J i := fun is h i hi => hp i (by simpa using List.all_eq_true.mp h i hi)
  exact (ss_cons (ss_for [2, 3, 4, 5] rfl rfl (si_enum rfl g.free_enumerate (sa_cons (se_name 1) sa_nil)) (sg_tup rfl (sgs_cons (sg_name 2 nd (hp := (hp 2 rfl))) (sgs_cons (sg_name 3 nd (hp := (hp 3 rfl))) sgs_nil))) (ss_one (ss_for [4, 5] rfl rfl (si_enum rfl g.free_enumerate (sa_cons (se_name 1) sa_nil)) (sg_tup rfl (sgs_cons (sg_name 4 nd (hp := (hp 4 rfl))) (sgs_cons (sg_name 5 nd (hp := (hp 5 rfl))) sgs_nil))) (ss_one (ss_if (sw_and (st_lt (se_name 3) (se_name 5)) (sw_and1 (st_ge (se_ix (se_name 0) (se_name 2)) (se_ix (se_name 0) (se_name 4))))).st (ss_one (ss_ret se_bl)) ss_nil)))))
    (ss_one (ss_ret se_bl)))
theorem call_keeps_sequence (g : Fre mg)  {f : Addr} {fd : FuncData} (F : FunD K "keeps_sequence" "keeps_sequence" (defArgs st_keeps_sequence) (defBody st_keeps_sequence) (defScope st_keeps_sequence) [] [] f fd) (hm : mg "keeps_sequence" = some (.ref f)) : CalX P w K mg base 9 "keeps_sequence" ["colouring", "other"] [] fr_keeps_sequence (defArgs st_keeps_sequence) (defBody st_keeps_sequence) (defScope st_keeps_sequence) :=
  ⟨f, fd, F, fnV_ok F sc_keeps_sequence (by decide) (by decide) (by decide) (fun J hJ => body_keeps_sequence g  hJ), hm, F.bindsN fun _ _ _ _ _ _ us hl => match us, hl with | [_, _], _ => rfl⟩
theorem kb_keeps_sequence_1_0 (C : CalX P w K mg base 9 "keeps_sequence" ["colouring", "other"] [] fr_keeps_sequence (defArgs st_keeps_sequence) (defBody st_keeps_sequence) (defScope st_keeps_sequence)) : ∀ fd f, FunD K "keeps_sequence" "keeps_sequence" (defArgs st_keeps_sequence) (defBody st_keeps_sequence) (defScope st_keeps_sequence) [] [] f fd → KB fd ["colouring", "other"] ["other", "colouring"] [1, 0] := fun fd f F => kb_of F fun _ _ _ _ _ _ ws hl => match ws, hl with | [_, _], _ => rfl
theorem sc_colouring_led : FnScope nn_colouring_led ["colouring", "numbering"] (defScope st_colouring_led) := ⟨rfl, rfl, rfl, by decide +kernel, rfl, by decide +kernel, by decide +kernel⟩
theorem body_colouring_led (g : Fre mg)  {J : List (Nat × V)} (hJ : J.map (·.1) = []) : SSs (ctxF P w K mg base nn_colouring_led (defScope st_colouring_led) 9) J (defBody st_colouring_led) m_colouring_led := by
  have nd : nn_colouring_led.Nodup := by decide
  have hp : ∀ i, ([] : List Nat).contains i = false → notPin J i := fun i h => notPin_of hJ h
  have hps : ∀ is : List Nat, (is.all fun i => !([] : List Nat).contains i) = true → ∀ i ∈ is, notPin J i := fun is h i hi => hp i (by simpa using List.all_eq_true.mp h i hi)
  exact (ss_cons (ss_lc 2 [("colour", 3)] rfl nd rfl rfl (hp 2 rfl) (by intro env h; cases env; cases h; rfl) (si_seq (se_name 0)) (blkOk_by (N := nn_colouring_led) (sc := defScope st_colouring_led) (by decide +kernel)) (sn_name 3 nd (hp := (hp 3 rfl))) stl_nil se_int (by decide) (hps _ (by decide)))
    (ss_cons (ss_for [3, 4] rfl rfl (si_enum rfl g.free_enumerate (sa_cons (se_name 0) sa_nil)) (sg_tup rfl (sgs_cons (sg_name 4 nd (hp := (hp 4 rfl))) (sgs_cons (sg_name 3 nd (hp := (hp 3 rfl))) sgs_nil))) (ss_one (ss_asg (se_name 3) (sg_sub (sp_name 2) (se_ix (se_name 1) (se_name 4))))))
    (ss_one (ss_ret (se_move 2)))))
theorem call_colouring_led (g : Fre mg)  {f : Addr} {fd : FuncData} (F : FunD K "colouring_led" "colouring_led" (defArgs st_colouring_led) (defBody st_colouring_led) (defScope st_colouring_led) [] [] f fd) (hm : mg "colouring_led" = some (.ref f)) : CalX P w K mg base 10 "colouring_led" ["colouring", "numbering"] [] fr_colouring_led (defArgs st_colouring_led) (defBody st_colouring_led) (defScope st_colouring_led) :=
  ⟨f, fd, F, fnV_ok F sc_colouring_led (by decide) (by decide) (by decide) (fun J hJ => body_colouring_led g  hJ), hm, F.bindsN fun _ _ _ _ _ _ us hl => match us, hl with | [_, _], _ => rfl⟩
theorem kb_colouring_led_1_0 (C : CalX P w K mg base 10 "colouring_led" ["colouring", "numbering"] [] fr_colouring_led (defArgs st_colouring_led) (defBody st_colouring_led) (defScope st_colouring_led)) : ∀ fd f, FunD K "colouring_led" "colouring_led" (defArgs st_colouring_led) (defBody st_colouring_led) (defScope st_colouring_led) [] [] f fd → KB fd ["colouring", "numbering"] ["numbering", "colouring"] [1, 0] := fun fd f F => kb_of F fun _ _ _ _ _ _ ws hl => match ws, hl with | [_, _], _ => rfl
theorem sc__law_pot : FnScope nn__law_pot ["_law_script", "_law_k"] (defScope st__law_pot) := ⟨rfl, rfl, rfl, by decide +kernel, rfl, by decide +kernel, by decide +kernel⟩
theorem body__law_pot (g : Fre mg)  {J : List (Nat × V)} (hJ : J.map (·.1) = []) : SSs (ctxF P w K mg base nn__law_pot (defScope st__law_pot) 10) J (defBody st__law_pot) m__law_pot := by
  have nd : nn__law_pot.Nodup := by decide
  have hp : ∀ i, ([] : List Nat).contains i = false → notPin J i := fun i h => notPin_of hJ h
  have hps : ∀ is : List Nat, (is.all fun i => !([] : List Nat).contains i) = true → ∀ i ∈ is, notPin J i := fun is h i hi => hp i (by simpa using List.all_eq_true.mp h i hi)
  exact (ss_cons (ss_asg (se_add (se_mul se_int (se_name 1)) se_int) (sg_name 2 nd (hp := (hp 2 rfl))))
    (ss_cons (ss_if (st_lt (se_name 1) (se_len rfl g.free_len (se_name 0))) (ss_one (ss_asg (se_abs rfl g.free_abs (se_ix (se_name 0) (se_name 1))) (sg_name 2 nd (hp := (hp 2 rfl))))) ss_nil)
    (ss_cons (ss_asg (se_add (se_mod (se_toInt rfl g.free_int (se_add (se_add (se_mul (se_mod (se_toInt rfl g.free_int (se_name 2)) se_int) se_int) (se_mul se_int (se_name 1))) se_int)) se_int) se_int) (sg_name 3 nd (hp := (hp 3 rfl))))
    (ss_one (ss_ret (se_lst (sa_cons (se_max rfl rfl g.free_max (sa_cons se_int (sa_cons (se_sub (se_name 2) (se_pow se_int se_int)) sa_nil))) (sa_cons (se_name 3) sa_nil))))))))
theorem call__law_pot (g : Fre mg)  {f : Addr} {fd : FuncData} (F : FunD K "_law_pot" "_law_pot" (defArgs st__law_pot) (defBody st__law_pot) (defScope st__law_pot) [] [] f fd) (hm : mg "_law_pot" = some (.ref f)) : CalX P w K mg base 11 "_law_pot" ["_law_script", "_law_k"] [] fr__law_pot (defArgs st__law_pot) (defBody st__law_pot) (defScope st__law_pot) :=
  ⟨f, fd, F, fnV_ok F sc__law_pot (by decide) (by decide) (by decide) (fun J hJ => body__law_pot g  hJ), hm, F.bindsN fun _ _ _ _ _ _ us hl => match us, hl with | [_, _], _ => rfl⟩
theorem sc__law_draw : FnScope nn__law_draw ["_law_pot_here", "_law_sides"] (defScope st__law_draw) := ⟨rfl, rfl, rfl, by decide +kernel, rfl, by decide +kernel, by decide +kernel⟩
theorem body__law_draw (g : Fre mg)  {J : List (Nat × V)} (hJ : J.map (·.1) = [0]) : SSs (ctxF P w K mg base nn__law_draw (defScope st__law_draw) 11) J (defBody st__law_draw) m__law_draw := by
  have nd : nn__law_draw.Nodup := by decide
  have hp : ∀ i, ([0] : List Nat).contains i = false → notPin J i := fun i h => notPin_of hJ h
  have hps : ∀ is : List Nat, (is.all fun i => !([0] : List Nat).contains i) = true → ∀ i ∈ is, notPin J i := fun is h i hi => hp i (by simpa using List.all_eq_true.mp h i hi)
  exact (ss_cons (ss_if (st_gt (se_ix (se_name 0) se_int) se_int) (ss_cons (ss_asg (se_divmod rfl g.free_divmod (se_ix (se_name 0) se_int) (se_name 1)) (sg_tup rfl (sgs_cons (sg_sub (sp_name 0) se_int) (sgs_cons (sg_name 2 nd (hp := (hp 2 rfl))) sgs_nil))))
    (ss_one (ss_ret (se_name 2)))) ss_nil)
    (ss_cons (ss_asg (se_mod (se_toInt rfl g.free_int (se_add (se_mul (se_ix (se_name 0) se_int) se_int) se_int)) se_int) (sg_sub (sp_name 0) se_int))
    (ss_one (ss_ret (se_mod (se_toInt rfl g.free_int (se_div (se_mod (se_toInt rfl g.free_int (se_mul (se_ix (se_name 0) se_int) (se_ix (se_name 0) se_int))) se_int) se_int)) (se_name 1))))))
theorem call__law_draw (g : Fre mg)  {f : Addr} {fd : FuncData} (F : FunD K "_law_draw" "_law_draw" (defArgs st__law_draw) (defBody st__law_draw) (defScope st__law_draw) [] [] f fd) (hm : mg "_law_draw" = some (.ref f)) : CalX P w K mg base 12 "_law_draw" ["_law_pot_here", "_law_sides"] [0] fr__law_draw (defArgs st__law_draw) (defBody st__law_draw) (defScope st__law_draw) :=
  ⟨f, fd, F, fnV_ok F sc__law_draw (by decide) (by decide) (by decide) (fun J hJ => body__law_draw g  hJ), hm, F.bindsN fun _ _ _ _ _ _ us hl => match us, hl with | [_, _], _ => rfl⟩
theorem sc__law_row : FnScope nn__law_row ["_law_pot_here", "_law_size"] (defScope st__law_row) := ⟨rfl, rfl, rfl, by decide +kernel, rfl, by decide +kernel, by decide +kernel⟩
theorem body__law_row (g : Fre mg) (C__law_draw : CalX P w K mg base 12 "_law_draw" ["_law_pot_here", "_law_sides"] [0] fr__law_draw (defArgs st__law_draw) (defBody st__law_draw) (defScope st__law_draw)) {J : List (Nat × V)} (hJ : J.map (·.1) = [0]) : SSs (ctxF P w K mg base nn__law_row (defScope st__law_row) 12) J (defBody st__law_row) m__law_row := by
  have nd : nn__law_row.Nodup := by decide
  have hp : ∀ i, ([0] : List Nat).contains i = false → notPin J i := fun i h => notPin_of hJ h
  have hps : ∀ is : List Nat, (is.all fun i => !([0] : List Nat).contains i) = true → ∀ i ∈ is, notPin J i := fun is h i hi => hp i (by simpa using List.all_eq_true.mp h i hi)
  exact (ss_cons (ss_par2 2 3 rfl nd (sa_cons (se_listRg1 rfl rfl g.free_list rfl g.free_range (se_name 1)) (sa_cons (se_lst sa_nil) sa_nil)) (hp 2 rfl) (hp 3 rfl) (hw := by intro env h; cases env; cases h; rfl))
    (ss_cons (ss_for [4] rfl rfl (si_range1 rfl g.free_range (sa_cons (se_name 1) sa_nil)) (sg_name 4 nd (hp := (hp 4 rfl))) (ss_one (ss_expr (se_append (sp_name 3) (se_popAt (sp_name 2) (se_callE ((C__law_draw).cal (show (12 : Nat) ≤ 12 by decide)) rfl (sb_pl 0 (sb_vl (se_len rfl g.free_len (se_name 2)) sb_nil)) (lenB_pl (lenB_vl lenB_nil))))))))
    (ss_one (ss_ret (se_move 3)))))
theorem call__law_row (g : Fre mg) (C__law_draw : CalX P w K mg base 12 "_law_draw" ["_law_pot_here", "_law_sides"] [0] fr__law_draw (defArgs st__law_draw) (defBody st__law_draw) (defScope st__law_draw)) {f : Addr} {fd : FuncData} (F : FunD K "_law_row" "_law_row" (defArgs st__law_row) (defBody st__law_row) (defScope st__law_row) [] [] f fd) (hm : mg "_law_row" = some (.ref f)) : CalX P w K mg base 13 "_law_row" ["_law_pot_here", "_law_size"] [0] fr__law_row (defArgs st__law_row) (defBody st__law_row) (defScope st__law_row) :=
  ⟨f, fd, F, fnV_ok F sc__law_row (by decide) (by decide) (by decide) (fun J hJ => body__law_row g C__law_draw hJ), hm, F.bindsN fun _ _ _ _ _ _ us hl => match us, hl with | [_, _], _ => rfl⟩
theorem sc__law_ranked : FnScope nn__law_ranked ["_law_keys"] (defScope st__law_ranked) := ⟨rfl, rfl, rfl, by decide +kernel, rfl, by decide +kernel, by decide +kernel⟩
theorem body__law_ranked (g : Fre mg)  {J : List (Nat × V)} (hJ : J.map (·.1) = []) : SSs (ctxF P w K mg base nn__law_ranked (defScope st__law_ranked) 13) J (defBody st__law_ranked) m__law_ranked := by
  have nd : nn__law_ranked.Nodup := by decide
  have hp : ∀ i, ([] : List Nat).contains i = false → notPin J i := fun i h => notPin_of hJ h
  have hps : ∀ is : List Nat, (is.all fun i => !([] : List Nat).contains i) = true → ∀ i ∈ is, notPin J i := fun is h i hi => hp i (by simpa using List.all_eq_true.mp h i hi)
  exact (ss_cons (ss_asg (se_lst sa_nil) (sg_name 1 nd (hp := (hp 1 rfl))))
    (ss_cons (ss_for [2] rfl rfl (si_seq (se_sorted rfl g.free_sorted (se_name 0))) (sg_name 2 nd (hp := (hp 2 rfl))) (ss_one (ss_if (sw_or (st_eq (se_name 1) (se_lst sa_nil)) (sw_or1 (st_ne (se_ix (se_name 1) (se_neg se_int)) (se_name 2)))).st (ss_one (ss_expr (se_append (sp_name 1) (se_name 2)))) ss_nil)))
    (ss_one (ss_ret (se_lc [("_law_key", 2)] rfl nd (si_seq (se_name 0)) (blkOk_by (N := nn__law_ranked) (sc := defScope st__law_ranked) (by decide +kernel)) (sn_name 2 nd (hp := (hp 2 rfl))) stl_nil (se_index (se_name 1) (se_name 2)) (by decide) (hps _ (by decide)))))))
theorem call__law_ranked (g : Fre mg)  {f : Addr} {fd : FuncData} (F : FunD K "_law_ranked" "_law_ranked" (defArgs st__law_ranked) (defBody st__law_ranked) (defScope st__law_ranked) [] [] f fd) (hm : mg "_law_ranked" = some (.ref f)) : CalX P w K mg base 14 "_law_ranked" ["_law_keys"] [] fr__law_ranked (defArgs st__law_ranked) (defBody st__law_ranked) (defScope st__law_ranked) :=
  ⟨f, fd, F, fnV_ok F sc__law_ranked (by decide) (by decide) (by decide) (fun J hJ => body__law_ranked g  hJ), hm, F.bindsN fun _ _ _ _ _ _ us hl => match us, hl with | [_], _ => rfl⟩
theorem sc__law_tint : FnScope nn__law_tint ["_law_pot_here", "_law_size"] (defScope st__law_tint) := ⟨rfl, rfl, rfl, by decide +kernel, rfl, by decide +kernel, by decide +kernel⟩
theorem body__law_tint (g : Fre mg) (C__law_draw : CalX P w K mg base 12 "_law_draw" ["_law_pot_here", "_law_sides"] [0] fr__law_draw (defArgs st__law_draw) (defBody st__law_draw) (defScope st__law_draw)) (C__law_ranked : CalX P w K mg base 14 "_law_ranked" ["_law_keys"] [] fr__law_ranked (defArgs st__law_ranked) (defBody st__law_ranked) (defScope st__law_ranked)) {J : List (Nat × V)} (hJ : J.map (·.1) = [0]) : SSs (ctxF P w K mg base nn__law_tint (defScope st__law_tint) 14) J (defBody st__law_tint) m__law_tint := by
  have nd : nn__law_tint.Nodup := by decide
  have hp : ∀ i, ([0] : List Nat).contains i = false → notPin J i := fun i h => notPin_of hJ h
  have hps : ∀ is : List Nat, (is.all fun i => !([0] : List Nat).contains i) = true → ∀ i ∈ is, notPin J i := fun is h i hi => hp i (by simpa using List.all_eq_true.mp h i hi)
  exact (ss_cons (ss_asg (se_ix (se_lst (sa_cons se_int (sa_cons se_int (sa_cons se_int (sa_cons se_int (sa_cons (se_add (se_name 1) se_int) sa_nil)))))) (se_callE ((C__law_draw).cal (show (12 : Nat) ≤ 14 by decide)) rfl (sb_pl 0 (sb_vl se_int sb_nil)) (lenB_pl (lenB_vl lenB_nil)))) (sg_name 2 nd (hp := (hp 2 rfl))))
    (ss_one (ss_ret (se_call ((C__law_ranked).cal (show (14 : Nat) ≤ 14 by decide)) rfl (sa_cons (se_lc [("_law_at", 3)] rfl nd (si_range1 rfl g.free_range (sa_cons (se_name 1) sa_nil)) (blkOk_by (N := nn__law_tint) (sc := defScope st__law_tint) (by decide +kernel)) (sn_name 3 nd (hp := (hp 3 rfl))) stl_nil (se_callE ((C__law_draw).cal (show (12 : Nat) ≤ 14 by decide)) rfl (sb_pl 0 (sb_vl (se_name 2) sb_nil)) (lenB_pl (lenB_vl lenB_nil))) (by decide) (hps _ (by decide))) sa_nil) (lenA_cons lenA_nil)))))
theorem call__law_tint (g : Fre mg) (C__law_draw : CalX P w K mg base 12 "_law_draw" ["_law_pot_here", "_law_sides"] [0] fr__law_draw (defArgs st__law_draw) (defBody st__law_draw) (defScope st__law_draw)) (C__law_ranked : CalX P w K mg base 14 "_law_ranked" ["_law_keys"] [] fr__law_ranked (defArgs st__law_ranked) (defBody st__law_ranked) (defScope st__law_ranked)) {f : Addr} {fd : FuncData} (F : FunD K "_law_tint" "_law_tint" (defArgs st__law_tint) (defBody st__law_tint) (defScope st__law_tint) [] [] f fd) (hm : mg "_law_tint" = some (.ref f)) : CalX P w K mg base 15 "_law_tint" ["_law_pot_here", "_law_size"] [0] fr__law_tint (defArgs st__law_tint) (defBody st__law_tint) (defScope st__law_tint) :=
  ⟨f, fd, F, fnV_ok F sc__law_tint (by decide) (by decide) (by decide) (fun J hJ => body__law_tint g C__law_draw C__law_ranked hJ), hm, F.bindsN fun _ _ _ _ _ _ us hl => match us, hl with | [_, _], _ => rfl⟩
theorem sc__law_cells : FnScope nn__law_cells ["_law_tint_here"] (defScope st__law_cells) := ⟨rfl, rfl, rfl, by decide +kernel, rfl, by decide +kernel, by decide +kernel⟩
theorem body__law_cells (g : Fre mg)  {J : List (Nat × V)} (hJ : J.map (·.1) = []) : SSs (ctxF P w K mg base nn__law_cells (defScope st__law_cells) 15) J (defBody st__law_cells) m__law_cells := by
  have nd : nn__law_cells.Nodup := by decide
  have hp : ∀ i, ([] : List Nat).contains i = false → notPin J i := fun i h => notPin_of hJ h
  have hps : ∀ is : List Nat, (is.all fun i => !([] : List Nat).contains i) = true → ∀ i ∈ is, notPin J i := fun is h i hi => hp i (by simpa using List.all_eq_true.mp h i hi)
  exact (ss_cons (ss_asg (se_lst sa_nil) (sg_name 1 nd (hp := (hp 1 rfl))))
    (ss_cons (ss_for [2, 3, 4, 5] rfl rfl (si_range1 rfl g.free_range (sa_cons (se_len rfl g.free_len (se_name 0)) sa_nil)) (sg_name 2 nd (hp := (hp 2 rfl))) (ss_cons (ss_lc 3 [("_law_at", 4), ("_law_one", 5)] rfl nd rfl rfl (hp 3 rfl) (by intro env h; cases env; cases h; rfl) (si_enum rfl g.free_enumerate (sa_cons (se_name 0) sa_nil)) (blkOk_by (N := nn__law_cells) (sc := defScope st__law_cells) (by decide +kernel)) (sn_tup rfl (sns_cons (sn_name 4 nd (hp := (hp 4 rfl))) (sns_cons (sn_name 5 nd (hp := (hp 5 rfl))) sns_nil))) (stl_one (st_eq (se_name 5) (se_name 2))) (se_name 4) (by decide) (hps _ (by decide)))
    (ss_one (ss_if (st_ne (se_name 3) (se_lst sa_nil)) (ss_one (ss_expr (se_append (sp_name 1) (se_move 3)))) ss_nil))))
    (ss_one (ss_ret (se_move 1)))))
theorem call__law_cells (g : Fre mg)  {f : Addr} {fd : FuncData} (F : FunD K "_law_cells" "_law_cells" (defArgs st__law_cells) (defBody st__law_cells) (defScope st__law_cells) [] [] f fd) (hm : mg "_law_cells" = some (.ref f)) : CalX P w K mg base 16 "_law_cells" ["_law_tint_here"] [] fr__law_cells (defArgs st__law_cells) (defBody st__law_cells) (defScope st__law_cells) :=
  ⟨f, fd, F, fnV_ok F sc__law_cells (by decide) (by decide) (by decide) (fun J hJ => body__law_cells g  hJ), hm, F.bindsN fun _ _ _ _ _ _ us hl => match us, hl with | [_], _ => rfl⟩
theorem sc__law_near : FnScope nn__law_near ["_law_pot_here", "_law_tint_here"] (defScope st__law_near) := ⟨rfl, rfl, rfl, by decide +kernel, rfl, by decide +kernel, by decide +kernel⟩
theorem body__law_near (g : Fre mg) (C__law_draw : CalX P w K mg base 12 "_law_draw" ["_law_pot_here", "_law_sides"] [0] fr__law_draw (defArgs st__law_draw) (defBody st__law_draw) (defScope st__law_draw)) {J : List (Nat × V)} (hJ : J.map (·.1) = [0]) : SSs (ctxF P w K mg base nn__law_near (defScope st__law_near) 16) J (defBody st__law_near) m__law_near := by
  have nd : nn__law_near.Nodup := by decide
  have hp : ∀ i, ([0] : List Nat).contains i = false → notPin J i := fun i h => notPin_of hJ h
  have hps : ∀ is : List Nat, (is.all fun i => !([0] : List Nat).contains i) = true → ∀ i ∈ is, notPin J i := fun is h i hi => hp i (by simpa using List.all_eq_true.mp h i hi)
  exact (ss_cons (ss_par3 2 3 4 rfl nd (sa_cons (se_callE ((C__law_draw).cal (show (12 : Nat) ≤ 16 by decide)) rfl (sb_pl 0 (sb_vl se_int sb_nil)) (lenB_pl (lenB_vl lenB_nil))) (sa_cons (se_sl (se_name 1) so_none so_none) (sa_cons (se_len rfl g.free_len (se_name 1)) sa_nil))) (hp 2 rfl) (hp 3 rfl) (hp 4 rfl) (hw := by intro env h; cases env; cases h; rfl))
    (ss_cons (ss_asg (se_callE ((C__law_draw).cal (show (12 : Nat) ≤ 16 by decide)) rfl (sb_pl 0 (sb_vl (se_add (se_name 4) se_int) sb_nil)) (lenB_pl (lenB_vl lenB_nil))) (sg_name 5 nd (hp := (hp 5 rfl))))
    (ss_cons (ss_asg (se_lst (sa_cons (se_neg se_int) (sa_cons (se_name 4) (sa_cons (se_add (se_name 4) se_int) (sa_cons se_bl (sa_cons se_bl (sa_cons se_non (sa_cons se_str (sa_cons (se_tup (sa_cons se_int sa_nil)) (sa_cons (se_lst (sa_cons se_int sa_nil)) (sa_cons (se_pow se_int se_int) (sa_cons (se_neg (se_pow se_int se_int)) sa_nil)))))))))))) (sg_name 6 nd (hp := (hp 6 rfl))))
    (ss_cons (ss_asg (se_ix (se_move 6) (se_callE ((C__law_draw).cal (show (12 : Nat) ≤ 16 by decide)) rfl (sb_pl 0 (sb_vl se_int sb_nil)) (lenB_pl (lenB_vl lenB_nil)))) (sg_name 7 nd (hp := (hp 7 rfl))))
    (ss_cons (ss_if (st_lt (se_name 2) se_int) (ss_one (ss_ret (se_move 3))) ss_nil)
    (ss_cons (ss_if (st_eq (se_name 2) se_int) (ss_one (ss_ret (se_tuple rfl g.free_tuple (se_name 3)))) ss_nil)
    (ss_cons (ss_if (st_eq (se_name 2) se_int) (ss_one (ss_ret (se_add (se_add (se_sl (se_name 3) so_none (so_some (se_name 5))) (se_lst (sa_cons (se_move 7) sa_nil))) (se_sl (se_name 3) (so_some (se_name 5)) so_none)))) ss_nil)
    (ss_cons (ss_if (st_eq (se_name 2) se_int) (ss_one (ss_ret (se_sl (se_name 3) so_none (so_some (se_name 5))))) ss_nil)
    (ss_cons (ss_if (st_eq (se_name 2) se_int) (ss_one (ss_ret (se_lc [("_law_colour", 8)] rfl nd (si_seq (se_move 3)) (blkOk_by (N := nn__law_near) (sc := defScope st__law_near) (by decide +kernel)) (sn_name 8 nd (hp := (hp 8 rfl))) stl_nil (se_add (se_name 8) se_int) (by decide) (hps _ (by decide))))) ss_nil)
    (ss_cons (ss_if (st_eq (se_name 2) se_int) (ss_one (ss_ret (se_lc [("_law_colour", 8)] rfl nd (si_seq (se_move 3)) (blkOk_by (N := nn__law_near) (sc := defScope st__law_near) (by decide +kernel)) (sn_name 8 nd (hp := (hp 8 rfl))) stl_nil (se_if (st_lt (se_name 8) se_int) (se_name 8) (se_add (se_name 8) se_int)) (by decide) (hps _ (by decide))))) ss_nil)
    (ss_cons (ss_if (st_eq (se_name 2) se_int) (ss_one (ss_ret (se_move 7))) ss_nil)
    (ss_one (ss_ret (se_add (se_add (se_sl (se_name 3) so_none (so_some (se_name 5))) (se_lst (sa_cons (se_move 7) sa_nil))) (se_sl (se_name 3) (so_some (se_add (se_name 5) se_int)) so_none)))))))))))))))
theorem call__law_near (g : Fre mg) (C__law_draw : CalX P w K mg base 12 "_law_draw" ["_law_pot_here", "_law_sides"] [0] fr__law_draw (defArgs st__law_draw) (defBody st__law_draw) (defScope st__law_draw)) {f : Addr} {fd : FuncData} (F : FunD K "_law_near" "_law_near" (defArgs st__law_near) (defBody st__law_near) (defScope st__law_near) [] [] f fd) (hm : mg "_law_near" = some (.ref f)) : CalX P w K mg base 17 "_law_near" ["_law_pot_here", "_law_tint_here"] [0] fr__law_near (defArgs st__law_near) (defBody st__law_near) (defScope st__law_near) :=
  ⟨f, fd, F, fnV_ok F sc__law_near (by decide) (by decide) (by decide) (fun J hJ => body__law_near g C__law_draw hJ), hm, F.bindsN fun _ _ _ _ _ _ us hl => match us, hl with | [_, _], _ => rfl⟩
theorem sc__law_is_one : FnScope nn__law_is_one ["_law_size", "_law_thing"] (defScope st__law_is_one) := ⟨rfl, rfl, rfl, by decide +kernel, rfl, by decide +kernel, by decide +kernel⟩
theorem body__law_is_one (g : Fre mg)  {J : List (Nat × V)} (hJ : J.map (·.1) = []) : SSs (ctxF P w K mg base nn__law_is_one (defScope st__law_is_one) 17) J (defBody st__law_is_one) m__law_is_one := by
  have nd : nn__law_is_one.Nodup := by decide
  have hp : ∀ i, ([] : List Nat).contains i = false → notPin J i := fun i h => notPin_of hJ h
  have hps : ∀ is : List Nat, (is.all fun i => !([] : List Nat).contains i) = true → ∀ i ∈ is, notPin J i := fun is h i hi => hp i (by simpa using List.all_eq_true.mp h i hi)
  exact (ss_cons (ss_if (sw_or (st_not (st_val (se_isi "list" rfl g.free_isinstance rfl g.free_list bi_list (se_name 1)))) (sw_or1 (st_ne (se_len rfl g.free_len (se_name 1)) (se_name 0)))).st (ss_one (ss_ret se_bl)) ss_nil)
    (ss_cons (ss_for [2] rfl rfl (si_seq (se_name 1)) (sg_name 2 nd (hp := (hp 2 rfl))) (ss_one (ss_if (sw_or (st_not (st_val (se_isi "int" rfl g.free_isinstance rfl g.free_int bi_int (se_name 2)))) (sw_or1 (st_val (se_isi "bool" rfl g.free_isinstance rfl g.free_bool bi_bool (se_name 2))))).st (ss_one (ss_ret se_bl)) ss_nil)))
    (ss_cons (ss_asg (se_sorted rfl g.free_sorted (se_name 1)) (sg_name 3 nd (hp := (hp 3 rfl))))
    (ss_cons (ss_lc 4 [("_law_at", 5)] rfl nd rfl rfl (hp 4 rfl) (by intro env h; cases env; cases h; rfl) (si_range1 rfl g.free_range (sa_cons (se_sub (se_len rfl g.free_len (se_name 3)) se_int) sa_nil)) (blkOk_by (N := nn__law_is_one) (sc := defScope st__law_is_one) (by decide +kernel)) (sn_name 5 nd (hp := (hp 5 rfl))) stl_nil (se_sub (se_ix (se_name 3) (se_add (se_name 5) se_int)) (se_ix (se_name 3) (se_name 5))) (by decide) (hps _ (by decide)))
    (ss_one (ss_ret (se_and (se_in (se_sl (se_name 3) so_none (so_some se_int)) (se_tup (sa_cons (se_lst sa_nil) (sa_cons (se_lst (sa_cons se_int sa_nil)) sa_nil)))) (se_one (se_eq (se_len rfl g.free_len (se_lc [("_law_step", 6)] rfl nd (si_seq (se_share 4)) (blkOk_by (N := nn__law_is_one) (sc := defScope st__law_is_one) (by decide +kernel)) (sn_name 6 nd (hp := (hp 6 rfl))) (stl_one (st_gt (se_name 6) se_int)) (se_name 6) (by decide) (hps _ (by decide)))) se_int)))))))))
theorem call__law_is_one (g : Fre mg)  {f : Addr} {fd : FuncData} (F : FunD K "_law_is_one" "_law_is_one" (defArgs st__law_is_one) (defBody st__law_is_one) (defScope st__law_is_one) [] [] f fd) (hm : mg "_law_is_one" = some (.ref f)) : CalX P w K mg base 18 "_law_is_one" ["_law_size", "_law_thing"] [] fr__law_is_one (defArgs st__law_is_one) (defBody st__law_is_one) (defScope st__law_is_one) :=
  ⟨f, fd, F, fnV_ok F sc__law_is_one (by decide) (by decide) (by decide) (fun J hJ => body__law_is_one g  hJ), hm, F.bindsN fun _ _ _ _ _ _ us hl => match us, hl with | [_, _], _ => rfl⟩
theorem sc__law_compared : FnScope nn__law_compared ["_law_tint_here", "_law_far"] (defScope st__law_compared) := ⟨rfl, rfl, rfl, by decide +kernel, rfl, by decide +kernel, by decide +kernel⟩
theorem body__law_compared (g : Fre mg)  {J : List (Nat × V)} (hJ : J.map (·.1) = []) : SSs (ctxF P w K mg base nn__law_compared (defScope st__law_compared) 18) J (defBody st__law_compared) m__law_compared := by
  have nd : nn__law_compared.Nodup := by decide
  have hp : ∀ i, ([] : List Nat).contains i = false → notPin J i := fun i h => notPin_of hJ h
  have hps : ∀ is : List Nat, (is.all fun i => !([] : List Nat).contains i) = true → ∀ i ∈ is, notPin J i := fun is h i hi => hp i (by simpa using List.all_eq_true.mp h i hi)
  exact (ss_cons (ss_asg (se_tup (sa_cons se_bl (sa_cons se_bl sa_nil))) (sg_tup rfl (sgs_cons (sg_name 2 nd (hp := (hp 2 rfl))) (sgs_cons (sg_name 3 nd (hp := (hp 3 rfl))) sgs_nil))) (hw := by intro env h; cases env; cases h; rfl))
    (ss_cons (ss_for [4, 5, 6, 7] rfl rfl (si_enum rfl g.free_enumerate (sa_cons (se_name 0) sa_nil)) (sg_tup rfl (sgs_cons (sg_name 4 nd (hp := (hp 4 rfl))) (sgs_cons (sg_name 5 nd (hp := (hp 5 rfl))) sgs_nil))) (ss_one (ss_for [6, 7] rfl rfl (si_enum rfl g.free_enumerate (sa_cons (se_name 0) sa_nil)) (sg_tup rfl (sgs_cons (sg_name 6 nd (hp := (hp 6 rfl))) (sgs_cons (sg_name 7 nd (hp := (hp 7 rfl))) sgs_nil))) (ss_cons (ss_if (sw_and (st_eq (se_name 5) (se_name 7)) (sw_and1 (st_ne (se_ix (se_name 1) (se_name 4)) (se_ix (se_name 1) (se_name 6))))).st (ss_one (ss_asg se_bl (sg_name 2 nd (hp := (hp 2 rfl))))) ss_nil)
    (ss_one (ss_if (sw_and (st_lt (se_ix (se_name 1) (se_name 4)) (se_ix (se_name 1) (se_name 6))) (sw_and1 (st_ge (se_name 5) (se_name 7)))).st (ss_one (ss_asg se_bl (sg_name 3 nd (hp := (hp 3 rfl))))) ss_nil))))))
    (ss_one (ss_ret (se_lst (sa_cons (se_name 2) (sa_cons (se_name 3) sa_nil)))))))
theorem call__law_compared (g : Fre mg)  {f : Addr} {fd : FuncData} (F : FunD K "_law_compared" "_law_compared" (defArgs st__law_compared) (defBody st__law_compared) (defScope st__law_compared) [] [] f fd) (hm : mg "_law_compared" = some (.ref f)) : CalX P w K mg base 19 "_law_compared" ["_law_tint_here", "_law_far"] [] fr__law_compared (defArgs st__law_compared) (defBody st__law_compared) (defScope st__law_compared) :=
  ⟨f, fd, F, fnV_ok F sc__law_compared (by decide) (by decide) (by decide) (fun J hJ => body__law_compared g  hJ), hm, F.bindsN fun _ _ _ _ _ _ us hl => match us, hl with | [_, _], _ => rfl⟩
theorem sc__law_coarser : FnScope nn__law_coarser ["_law_pot_here", "_law_tint_here"] (defScope st__law_coarser) := ⟨rfl, rfl, rfl, by decide +kernel, rfl, by decide +kernel, by decide +kernel⟩
theorem body__law_coarser (g : Fre mg) (C__law_draw : CalX P w K mg base 12 "_law_draw" ["_law_pot_here", "_law_sides"] [0] fr__law_draw (defArgs st__law_draw) (defBody st__law_draw) (defScope st__law_draw)) (C__law_ranked : CalX P w K mg base 14 "_law_ranked" ["_law_keys"] [] fr__law_ranked (defArgs st__law_ranked) (defBody st__law_ranked) (defScope st__law_ranked)) {J : List (Nat × V)} (hJ : J.map (·.1) = [0]) : SSs (ctxF P w K mg base nn__law_coarser (defScope st__law_coarser) 19) J (defBody st__law_coarser) m__law_coarser := by
  have nd : nn__law_coarser.Nodup := by decide
  have hp : ∀ i, ([0] : List Nat).contains i = false → notPin J i := fun i h => notPin_of hJ h
  have hps : ∀ is : List Nat, (is.all fun i => !([0] : List Nat).contains i) = true → ∀ i ∈ is, notPin J i := fun is h i hi => hp i (by simpa using List.all_eq_true.mp h i hi)
  exact (ss_cons (ss_asg (se_add se_int (se_callE ((C__law_draw).cal (show (12 : Nat) ≤ 19 by decide)) rfl (sb_pl 0 (sb_vl se_int sb_nil)) (lenB_pl (lenB_vl lenB_nil)))) (sg_name 2 nd (hp := (hp 2 rfl))))
    (ss_cons (ss_if (st_eq (se_callE ((C__law_draw).cal (show (12 : Nat) ≤ 19 by decide)) rfl (sb_pl 0 (sb_vl se_int sb_nil)) (lenB_pl (lenB_vl lenB_nil))) se_int) (ss_one (ss_ret (se_call ((C__law_ranked).cal (show (14 : Nat) ≤ 19 by decide)) rfl (sa_cons (se_lc [("_law_colour", 3)] rfl nd (si_seq (se_name 1)) (blkOk_by (N := nn__law_coarser) (sc := defScope st__law_coarser) (by decide +kernel)) (sn_name 3 nd (hp := (hp 3 rfl))) stl_nil (se_div (se_name 3) (se_name 2)) (by decide) (hps _ (by decide))) sa_nil) (lenA_cons lenA_nil)))) ss_nil)
    (ss_one (ss_ret (se_call ((C__law_ranked).cal (show (14 : Nat) ≤ 19 by decide)) rfl (sa_cons (se_lc [("_law_colour", 3)] rfl nd (si_seq (se_name 1)) (blkOk_by (N := nn__law_coarser) (sc := defScope st__law_coarser) (by decide +kernel)) (sn_name 3 nd (hp := (hp 3 rfl))) stl_nil (se_mod (se_toInt rfl g.free_int (se_name 3)) (se_name 2)) (by decide) (hps _ (by decide))) sa_nil) (lenA_cons lenA_nil))))))
theorem call__law_coarser (g : Fre mg) (C__law_draw : CalX P w K mg base 12 "_law_draw" ["_law_pot_here", "_law_sides"] [0] fr__law_draw (defArgs st__law_draw) (defBody st__law_draw) (defScope st__law_draw)) (C__law_ranked : CalX P w K mg base 14 "_law_ranked" ["_law_keys"] [] fr__law_ranked (defArgs st__law_ranked) (defBody st__law_ranked) (defScope st__law_ranked)) {f : Addr} {fd : FuncData} (F : FunD K "_law_coarser" "_law_coarser" (defArgs st__law_coarser) (defBody st__law_coarser) (defScope st__law_coarser) [] [] f fd) (hm : mg "_law_coarser" = some (.ref f)) : CalX P w K mg base 20 "_law_coarser" ["_law_pot_here", "_law_tint_here"] [0] fr__law_coarser (defArgs st__law_coarser) (defBody st__law_coarser) (defScope st__law_coarser) :=
  ⟨f, fd, F, fnV_ok F sc__law_coarser (by decide) (by decide) (by decide) (fun J hJ => body__law_coarser g C__law_draw C__law_ranked hJ), hm, F.bindsN fun _ _ _ _ _ _ us hl => match us, hl with | [_, _], _ => rfl⟩
theorem sc__law_right : FnScope nn__law_right ["_law_pot_here", "_law_more"] (defScope st__law_right) := ⟨rfl, rfl, rfl, by decide +kernel, rfl, by decide +kernel, by decide +kernel⟩
theorem body__law_right (g : Fre mg) (C__law_draw : CalX P w K mg base 12 "_law_draw" ["_law_pot_here", "_law_sides"] [0] fr__law_draw (defArgs st__law_draw) (defBody st__law_draw) (defScope st__law_draw)) (C_is_colouring : CalX P w K mg base 4 "is_colouring" ["many", "value"] [] fr_is_colouring (defArgs st_is_colouring) (defBody st_is_colouring) (defScope st_is_colouring)) (C__law_tint : CalX P w K mg base 15 "_law_tint" ["_law_pot_here", "_law_size"] [0] fr__law_tint (defArgs st__law_tint) (defBody st__law_tint) (defScope st__law_tint)) (C__law_coarser : CalX P w K mg base 20 "_law_coarser" ["_law_pot_here", "_law_tint_here"] [0] fr__law_coarser (defArgs st__law_coarser) (defBody st__law_coarser) (defScope st__law_coarser)) (C__law_row : CalX P w K mg base 13 "_law_row" ["_law_pot_here", "_law_size"] [0] fr__law_row (defArgs st__law_row) (defBody st__law_row) (defScope st__law_row)) (C__law_near : CalX P w K mg base 17 "_law_near" ["_law_pot_here", "_law_tint_here"] [0] fr__law_near (defArgs st__law_near) (defBody st__law_near) (defScope st__law_near)) (C__law_is_one : CalX P w K mg base 18 "_law_is_one" ["_law_size", "_law_thing"] [] fr__law_is_one (defArgs st__law_is_one) (defBody st__law_is_one) (defScope st__law_is_one)) (C_is_finer : CalX P w K mg base 8 "is_finer" ["colouring", "other"] [] fr_is_finer (defArgs st_is_finer) (defBody st_is_finer) (defScope st_is_finer)) (C_keeps_sequence : CalX P w K mg base 9 "keeps_sequence" ["colouring", "other"] [] fr_keeps_sequence (defArgs st_keeps_sequence) (defBody st_keeps_sequence) (defScope st_keeps_sequence)) (C__law_compared : CalX P w K mg base 19 "_law_compared" ["_law_tint_here", "_law_far"] [] fr__law_compared (defArgs st__law_compared) (defBody st__law_compared) (defScope st__law_compared)) (C__law_cells : CalX P w K mg base 16 "_law_cells" ["_law_tint_here"] [] fr__law_cells (defArgs st__law_cells) (defBody st__law_cells) (defScope st__law_cells)) (C_cells_of : CalX P w K mg base 5 "cells_of" ["colouring"] [] fr_cells_of (defArgs st_cells_of) (defBody st_cells_of) (defScope st_cells_of)) (C_trace_of : CalX P w K mg base 6 "trace_of" ["colouring"] [] fr_trace_of (defArgs st_trace_of) (defBody st_trace_of) (defScope st_trace_of)) (C_is_discrete : CalX P w K mg base 7 "is_discrete" ["colouring"] [] fr_is_discrete (defArgs st_is_discrete) (defBody st_is_discrete) (defScope st_is_discrete)) (C_colouring_led : CalX P w K mg base 10 "colouring_led" ["colouring", "numbering"] [] fr_colouring_led (defArgs st_colouring_led) (defBody st_colouring_led) (defScope st_colouring_led)) {J : List (Nat × V)} (hJ : J.map (·.1) = [0, 1]) : SSs (ctxF P w K mg base nn__law_right (defScope st__law_right) 20) J (defBody st__law_right) m__law_right := by
  have nd : nn__law_right.Nodup := by decide
  have hp : ∀ i, ([0, 1] : List Nat).contains i = false → notPin J i := fun i h => notPin_of hJ h
  have hps : ∀ is : List Nat, (is.all fun i => !([0, 1] : List Nat).contains i) = true → ∀ i ∈ is, notPin J i := fun is h i hi => hp i (by simpa using List.all_eq_true.mp h i hi)
  exact (ss_cons (ss_asg (se_ix (se_lst (sa_cons se_int (sa_cons se_int (sa_cons se_int (sa_cons se_int (sa_cons se_int (sa_cons se_int (sa_cons se_int (sa_cons se_int sa_nil))))))))) (se_callE ((C__law_draw).cal (show (12 : Nat) ≤ 20 by decide)) rfl (sb_pl 1 (sb_vl se_int sb_nil)) (lenB_pl (lenB_vl lenB_nil)))) (sg_name 2 nd (hp := (hp 2 rfl))))
    (ss_cons (ss_lc 3 [("_law_at", 4)] rfl nd rfl rfl (hp 3 rfl) (by intro env h; cases env; cases h; rfl) (si_range1 rfl g.free_range (sa_cons (se_add se_int (se_callE ((C__law_draw).cal (show (12 : Nat) ≤ 20 by decide)) rfl (sb_pl 1 (sb_vl se_int sb_nil)) (lenB_pl (lenB_vl lenB_nil)))) sa_nil)) (blkOk_by (N := nn__law_right) (sc := defScope st__law_right) (by decide +kernel)) (sn_name 4 nd (hp := (hp 4 rfl))) stl_nil se_int (by decide) (hps _ (by decide)))
    (ss_cons (ss_asg (se_lst (sa_cons (se_call ((C_is_colouring).cal (show (4 : Nat) ≤ 20 by decide)) rfl (sa_cons (se_len rfl g.free_len (se_name 3)) (sa_cons (se_name 3) sa_nil)) (lenA_cons (lenA_cons lenA_nil))) (sa_cons (se_call ((C_is_colouring).cal (show (4 : Nat) ≤ 20 by decide)) rfl (sa_cons (se_add (se_len rfl g.free_len (se_name 3)) se_int) (sa_cons (se_name 3) sa_nil)) (lenA_cons (lenA_cons lenA_nil))) sa_nil))) (sg_name 5 nd (hp := (hp 5 rfl))))
    (ss_cons (ss_if (st_ne (se_repr rfl g.free_repr (se_name 5)) (se_repr rfl g.free_repr (se_lst (sa_cons se_bl (sa_cons se_bl sa_nil))))) (ss_one (ss_ret se_bl)) ss_nil)
    (ss_cons (ss_asg (se_callE ((C__law_tint).cal (show (15 : Nat) ≤ 20 by decide)) rfl (sb_pl 0 (sb_vl (se_name 2) sb_nil)) (lenB_pl (lenB_vl lenB_nil))) (sg_name 6 nd (hp := (hp 6 rfl))))
    (ss_cons (ss_asg (se_if (st_eq (se_callE ((C__law_draw).cal (show (12 : Nat) ≤ 20 by decide)) rfl (sb_pl 1 (sb_vl se_int sb_nil)) (lenB_pl (lenB_vl lenB_nil))) se_int) (se_callE ((C__law_tint).cal (show (15 : Nat) ≤ 20 by decide)) rfl (sb_pl 1 (sb_vl (se_name 2) sb_nil)) (lenB_pl (lenB_vl lenB_nil))) (se_callE ((C__law_coarser).cal (show (20 : Nat) ≤ 20 by decide)) rfl (sb_pl 1 (sb_vl (se_share 6) sb_nil)) (lenB_pl (lenB_vl lenB_nil)))) (sg_name 7 nd (hp := (hp 7 rfl))))
    (ss_cons (ss_par2 8 9 rfl nd (sa_cons (se_callE ((C__law_row).cal (show (13 : Nat) ≤ 20 by decide)) rfl (sb_pl 1 (sb_vl (se_name 2) sb_nil)) (lenB_pl (lenB_vl lenB_nil))) (sa_cons (se_add (se_name 2) (se_div (se_callE ((C__law_draw).cal (show (12 : Nat) ≤ 20 by decide)) rfl (sb_pl 1 (sb_vl se_int sb_nil)) (lenB_pl (lenB_vl lenB_nil))) se_int)) sa_nil)) (hp 8 rfl) (hp 9 rfl) (hw := by intro env h; cases env; cases h; rfl))
    (ss_cons (ss_for [10, 11, 5] rfl rfl (si_seq (se_tup (sa_cons (se_share 6) (sa_cons (se_callE ((C__law_near).cal (show (17 : Nat) ≤ 20 by decide)) rfl (sb_pl 0 (sb_vl (se_share 6) sb_nil)) (lenB_pl (lenB_vl lenB_nil))) (sa_cons (se_callE ((C__law_near).cal (show (17 : Nat) ≤ 20 by decide)) rfl (sb_pl 1 (sb_vl (se_share 7) sb_nil)) (lenB_pl (lenB_vl lenB_nil))) sa_nil))))) (sg_name 10 nd (hp := (hp 10 rfl))) (ss_cons (ss_asg (se_repr rfl g.free_repr (se_name 10)) (sg_name 11 nd (hp := (hp 11 rfl))))
    (ss_cons (ss_asg (se_lst (sa_cons (se_call ((C_is_colouring).cal (show (4 : Nat) ≤ 20 by decide)) rfl (sa_cons (se_name 2) (sa_cons (se_name 10) sa_nil)) (lenA_cons (lenA_cons lenA_nil))) (sa_cons (se_callK0 ((C_is_colouring).calK (ks := ["value", "many"]) (π := [1, 0]) (show (4 : Nat) ≤ 20 by decide) (kb_is_colouring_1_0 C_is_colouring) (by decide)) rfl (sk_cons (se_name 10) (sk_cons (se_name 9) sk_nil)) (lenA_cons (lenA_cons lenA_nil))) sa_nil))) (sg_name 5 nd (hp := (hp 5 rfl))))
    (ss_cons (ss_if (st_ne (se_repr rfl g.free_repr (se_name 5)) (se_repr rfl g.free_repr (se_lst (sa_cons (se_call ((C__law_is_one).cal (show (18 : Nat) ≤ 20 by decide)) rfl (sa_cons (se_name 2) (sa_cons (se_name 10) sa_nil)) (lenA_cons (lenA_cons lenA_nil))) (sa_cons (se_call ((C__law_is_one).cal (show (18 : Nat) ≤ 20 by decide)) rfl (sa_cons (se_name 9) (sa_cons (se_name 10) sa_nil)) (lenA_cons (lenA_cons lenA_nil))) sa_nil))))) (ss_one (ss_ret se_bl)) ss_nil)
    (ss_one (ss_if (st_ne (se_repr rfl g.free_repr (se_name 10)) (se_name 11)) (ss_one (ss_ret se_bl)) ss_nil))))))
    (ss_cons (ss_for [12, 13, 5] rfl rfl (si_seq (se_tup (sa_cons (se_tup (sa_cons (se_share 6) (sa_cons (se_share 7) sa_nil))) (sa_cons (se_tup (sa_cons (se_share 7) (sa_cons (se_share 6) sa_nil))) (sa_cons (se_tup (sa_cons (se_share 6) (sa_cons (se_share 6) sa_nil))) sa_nil))))) (sg_tup rfl (sgs_cons (sg_name 12 nd (hp := (hp 12 rfl))) (sgs_cons (sg_name 13 nd (hp := (hp 13 rfl))) sgs_nil))) (ss_cons (ss_asg (se_lst (sa_cons (se_call ((C_is_finer).cal (show (8 : Nat) ≤ 20 by decide)) rfl (sa_cons (se_sl (se_name 12) so_none so_none) (sa_cons (se_sl (se_name 13) so_none so_none) sa_nil)) (lenA_cons (lenA_cons lenA_nil))) (sa_cons (se_call ((C_keeps_sequence).cal (show (9 : Nat) ≤ 20 by decide)) rfl (sa_cons (se_sl (se_name 12) so_none so_none) (sa_cons (se_sl (se_name 13) so_none so_none) sa_nil)) (lenA_cons (lenA_cons lenA_nil))) sa_nil))) (sg_name 5 nd (hp := (hp 5 rfl))))
    (ss_one (ss_if (st_ne (se_repr rfl g.free_repr (se_name 5)) (se_repr rfl g.free_repr (se_call ((C__law_compared).cal (show (19 : Nat) ≤ 20 by decide)) rfl (sa_cons (se_name 12) (sa_cons (se_name 13) sa_nil)) (lenA_cons (lenA_cons lenA_nil))))) (ss_one (ss_ret se_bl)) ss_nil))))
    (ss_cons (ss_asg (se_lst (sa_cons (se_callK0 ((C_is_finer).calK (ks := ["other", "colouring"]) (π := [1, 0]) (show (8 : Nat) ≤ 20 by decide) (kb_is_finer_1_0 C_is_finer) (by decide)) rfl (sk_cons (se_name 7) (sk_cons (se_name 6) sk_nil)) (lenA_cons (lenA_cons lenA_nil))) (sa_cons (se_callK0 ((C_keeps_sequence).calK (ks := ["other", "colouring"]) (π := [1, 0]) (show (9 : Nat) ≤ 20 by decide) (kb_keeps_sequence_1_0 C_keeps_sequence) (by decide)) rfl (sk_cons (se_name 7) (sk_cons (se_name 6) sk_nil)) (lenA_cons (lenA_cons lenA_nil))) sa_nil))) (sg_name 5 nd (hp := (hp 5 rfl))))
    (ss_cons (ss_if (st_ne (se_repr rfl g.free_repr (se_name 5)) (se_repr rfl g.free_repr (se_call ((C__law_compared).cal (show (19 : Nat) ≤ 20 by decide)) rfl (sa_cons (se_name 6) (sa_cons (se_name 7) sa_nil)) (lenA_cons (lenA_cons lenA_nil))))) (ss_one (ss_ret se_bl)) ss_nil)
    (ss_cons (ss_asg (se_call ((C__law_cells).cal (show (16 : Nat) ≤ 20 by decide)) rfl (sa_cons (se_name 6) sa_nil) (lenA_cons lenA_nil)) (sg_name 14 nd (hp := (hp 14 rfl))))
    (ss_cons (ss_lc 15 [("_law_cell", 16)] rfl nd rfl rfl (hp 15 rfl) (by intro env h; cases env; cases h; rfl) (si_seq (se_share 14)) (blkOk_by (N := nn__law_right) (sc := defScope st__law_right) (by decide +kernel)) (sn_name 16 nd (hp := (hp 16 rfl))) stl_nil (se_len rfl g.free_len (se_name 16)) (by decide) (hps _ (by decide)))
    (ss_cons (ss_asg (se_lst (sa_cons (se_call ((C_cells_of).cal (show (5 : Nat) ≤ 20 by decide)) rfl (sa_cons (se_name 6) sa_nil) (lenA_cons lenA_nil)) (sa_cons (se_callK0 ((C_trace_of).calK (ks := ["colouring"]) (π := [0]) (show (6 : Nat) ≤ 20 by decide) (kb_trace_of_0 C_trace_of) (by decide)) rfl (sk_cons (se_name 6) sk_nil) (lenA_cons lenA_nil)) (sa_cons (se_callK0 ((C_is_discrete).calK (ks := ["colouring"]) (π := [0]) (show (7 : Nat) ≤ 20 by decide) (kb_is_discrete_0 C_is_discrete) (by decide)) rfl (sk_cons (se_name 6) sk_nil) (lenA_cons lenA_nil)) sa_nil)))) (sg_name 5 nd (hp := (hp 5 rfl))))
    (ss_cons (ss_if (st_ne (se_repr rfl g.free_repr (se_name 5)) (se_repr rfl g.free_repr (se_lst (sa_cons (se_name 14) (sa_cons (se_name 15) (sa_cons (se_eq (se_len rfl g.free_len (se_name 14)) (se_name 2)) sa_nil)))))) (ss_one (ss_ret se_bl)) ss_nil)
    (ss_cons (ss_forN [16] rfl rfl (se_ix (se_move 5) se_int) (sg_name 16 nd (hp := (hp 16 rfl))) (ss_one (ss_expr (se_append (sp_name 16) se_non))))
    (ss_cons (ss_par2 17 11 rfl nd (sa_cons (se_lc [("_law_at", 4)] rfl nd (si_seq (se_share 6)) (blkOk_by (N := nn__law_right) (sc := defScope st__law_right) (by decide +kernel)) (sn_name 4 nd (hp := (hp 4 rfl))) stl_nil se_int (by decide) (hps _ (by decide))) (sa_cons (se_repr rfl g.free_repr (se_lst (sa_cons (se_share 6) (sa_cons (se_name 8) sa_nil)))) sa_nil)) (hp 17 rfl) (hp 11 rfl) (hw := by intro env h; cases env; cases h; rfl))
    (ss_cons (ss_for [4, 18] rfl rfl (si_enum rfl g.free_enumerate (sa_cons (se_share 6) sa_nil)) (sg_tup rfl (sgs_cons (sg_name 4 nd (hp := (hp 4 rfl))) (sgs_cons (sg_name 18 nd (hp := (hp 18 rfl))) sgs_nil))) (ss_one (ss_asg (se_name 18) (sg_sub (sp_name 17) (se_ix (se_name 8) (se_name 4))))))
    (ss_cons (ss_if (st_ne (se_repr rfl g.free_repr (se_lst (sa_cons (se_callK0 ((C_cells_of).calK (ks := ["colouring"]) (π := [0]) (show (5 : Nat) ≤ 20 by decide) (kb_cells_of_0 C_cells_of) (by decide)) rfl (sk_cons (se_name 6) sk_nil) (lenA_cons lenA_nil)) (sa_cons (se_call ((C_colouring_led).cal (show (10 : Nat) ≤ 20 by decide)) rfl (sa_cons (se_name 6) (sa_cons (se_name 8) sa_nil)) (lenA_cons (lenA_cons lenA_nil))) sa_nil)))) (se_repr rfl g.free_repr (se_lst (sa_cons (se_name 14) (sa_cons (se_name 17) sa_nil))))) (ss_one (ss_ret se_bl)) ss_nil)
    (ss_cons (ss_asg (se_lst (sa_cons (se_call ((C_colouring_led).cal (show (10 : Nat) ≤ 20 by decide)) rfl (sa_cons (se_name 6) (sa_cons (se_listRg1 rfl rfl g.free_list rfl g.free_range (se_name 2)) sa_nil)) (lenA_cons (lenA_cons lenA_nil))) (sa_cons (se_call ((C_colouring_led).cal (show (10 : Nat) ≤ 20 by decide)) rfl (sa_cons (se_name 6) (sa_cons (se_name 8) sa_nil)) (lenA_cons (lenA_cons lenA_nil))) sa_nil))) (sg_name 5 nd (hp := (hp 5 rfl))))
    (ss_cons (ss_if (st_ne (se_repr rfl g.free_repr (se_name 5)) (se_repr rfl g.free_repr (se_lst (sa_cons (se_share 6) (sa_cons (se_name 17) sa_nil))))) (ss_one (ss_ret se_bl)) ss_nil)
    (ss_cons (ss_expr (se_append (sp_ix (sp_name 5) se_int) se_non))
    (ss_one (ss_ret (se_and (se_eq (se_callK0 ((C_colouring_led).calK (ks := ["numbering", "colouring"]) (π := [1, 0]) (show (10 : Nat) ≤ 20 by decide) (kb_colouring_led_1_0 C_colouring_led) (by decide)) rfl (sk_cons (se_name 8) (sk_cons (se_name 6) sk_nil)) (lenA_cons (lenA_cons lenA_nil))) (se_name 17)) (se_one (se_eq (se_repr rfl g.free_repr (se_lst (sa_cons (se_share 6) (sa_cons (se_name 8) sa_nil)))) (se_name 11))))))))))))))))))))))))))))
theorem call__law_right (g : Fre mg) (C__law_draw : CalX P w K mg base 12 "_law_draw" ["_law_pot_here", "_law_sides"] [0] fr__law_draw (defArgs st__law_draw) (defBody st__law_draw) (defScope st__law_draw)) (C_is_colouring : CalX P w K mg base 4 "is_colouring" ["many", "value"] [] fr_is_colouring (defArgs st_is_colouring) (defBody st_is_colouring) (defScope st_is_colouring)) (C__law_tint : CalX P w K mg base 15 "_law_tint" ["_law_pot_here", "_law_size"] [0] fr__law_tint (defArgs st__law_tint) (defBody st__law_tint) (defScope st__law_tint)) (C__law_coarser : CalX P w K mg base 20 "_law_coarser" ["_law_pot_here", "_law_tint_here"] [0] fr__law_coarser (defArgs st__law_coarser) (defBody st__law_coarser) (defScope st__law_coarser)) (C__law_row : CalX P w K mg base 13 "_law_row" ["_law_pot_here", "_law_size"] [0] fr__law_row (defArgs st__law_row) (defBody st__law_row) (defScope st__law_row)) (C__law_near : CalX P w K mg base 17 "_law_near" ["_law_pot_here", "_law_tint_here"] [0] fr__law_near (defArgs st__law_near) (defBody st__law_near) (defScope st__law_near)) (C__law_is_one : CalX P w K mg base 18 "_law_is_one" ["_law_size", "_law_thing"] [] fr__law_is_one (defArgs st__law_is_one) (defBody st__law_is_one) (defScope st__law_is_one)) (C_is_finer : CalX P w K mg base 8 "is_finer" ["colouring", "other"] [] fr_is_finer (defArgs st_is_finer) (defBody st_is_finer) (defScope st_is_finer)) (C_keeps_sequence : CalX P w K mg base 9 "keeps_sequence" ["colouring", "other"] [] fr_keeps_sequence (defArgs st_keeps_sequence) (defBody st_keeps_sequence) (defScope st_keeps_sequence)) (C__law_compared : CalX P w K mg base 19 "_law_compared" ["_law_tint_here", "_law_far"] [] fr__law_compared (defArgs st__law_compared) (defBody st__law_compared) (defScope st__law_compared)) (C__law_cells : CalX P w K mg base 16 "_law_cells" ["_law_tint_here"] [] fr__law_cells (defArgs st__law_cells) (defBody st__law_cells) (defScope st__law_cells)) (C_cells_of : CalX P w K mg base 5 "cells_of" ["colouring"] [] fr_cells_of (defArgs st_cells_of) (defBody st_cells_of) (defScope st_cells_of)) (C_trace_of : CalX P w K mg base 6 "trace_of" ["colouring"] [] fr_trace_of (defArgs st_trace_of) (defBody st_trace_of) (defScope st_trace_of)) (C_is_discrete : CalX P w K mg base 7 "is_discrete" ["colouring"] [] fr_is_discrete (defArgs st_is_discrete) (defBody st_is_discrete) (defScope st_is_discrete)) (C_colouring_led : CalX P w K mg base 10 "colouring_led" ["colouring", "numbering"] [] fr_colouring_led (defArgs st_colouring_led) (defBody st_colouring_led) (defScope st_colouring_led)) {f : Addr} {fd : FuncData} (F : FunD K "_law_right" "_law_right" (defArgs st__law_right) (defBody st__law_right) (defScope st__law_right) [] [] f fd) (hm : mg "_law_right" = some (.ref f)) : CalX P w K mg base 21 "_law_right" ["_law_pot_here", "_law_more"] [0, 1] fr__law_right (defArgs st__law_right) (defBody st__law_right) (defScope st__law_right) :=
  ⟨f, fd, F, fnV_ok F sc__law_right (by decide) (by decide) (by decide) (fun J hJ => body__law_right g C__law_draw C_is_colouring C__law_tint C__law_coarser C__law_row C__law_near C__law_is_one C_is_finer C_keeps_sequence C__law_compared C__law_cells C_cells_of C_trace_of C_is_discrete C_colouring_led hJ), hm, F.bindsN fun _ _ _ _ _ _ us hl => match us, hl with | [_, _], _ => rfl⟩
theorem sc_law : FnScope nn_law ["_law_script"] (defScope st_law) := ⟨rfl, rfl, rfl, by decide +kernel, rfl, by decide +kernel, by decide +kernel⟩
theorem body_law (g : Fre mg) (C__law_right : CalX P w K mg base 21 "_law_right" ["_law_pot_here", "_law_more"] [0, 1] fr__law_right (defArgs st__law_right) (defBody st__law_right) (defScope st__law_right)) (C__law_pot : CalX P w K mg base 11 "_law_pot" ["_law_script", "_law_k"] [] fr__law_pot (defArgs st__law_pot) (defBody st__law_pot) (defScope st__law_pot)) {J : List (Nat × V)} (hJ : J.map (·.1) = []) : SSs (ctxF P w K mg base nn_law (defScope st_law) 21) J (defBody st_law) m_law := by
  have nd : nn_law.Nodup := by decide
  have hp : ∀ i, ([] : List Nat).contains i = false → notPin J i := fun i h => notPin_of hJ h
  have hps : ∀ is : List Nat, (is.all fun i => !([] : List Nat).contains i) = true → ∀ i ∈ is, notPin J i := fun is h i hi => hp i (by simpa using List.all_eq_true.mp h i hi)
  exact (ss_one (ss_ret (se_callT ((C__law_right).cal (show (21 : Nat) ≤ 21 by decide)) rfl (sa_cons (se_call ((C__law_pot).cal (show (11 : Nat) ≤ 21 by decide)) rfl (sa_cons (se_name 0) (sa_cons se_int sa_nil)) (lenA_cons (lenA_cons lenA_nil))) (sa_cons (se_call ((C__law_pot).cal (show (11 : Nat) ≤ 21 by decide)) rfl (sa_cons (se_name 0) (sa_cons se_int sa_nil)) (lenA_cons (lenA_cons lenA_nil))) sa_nil)) (lenA_cons (lenA_cons lenA_nil)))))
theorem call_law (g : Fre mg) (C__law_right : CalX P w K mg base 21 "_law_right" ["_law_pot_here", "_law_more"] [0, 1] fr__law_right (defArgs st__law_right) (defBody st__law_right) (defScope st__law_right)) (C__law_pot : CalX P w K mg base 11 "_law_pot" ["_law_script", "_law_k"] [] fr__law_pot (defArgs st__law_pot) (defBody st__law_pot) (defScope st__law_pot)) {f : Addr} {fd : FuncData} (F : FunD K "law" "law" (defArgs st_law) (defBody st_law) (defScope st_law) [] [] f fd) (hm : mg "law" = some (.ref f)) : CalX P w K mg base 22 "law" ["_law_script"] [] fr_law (defArgs st_law) (defBody st_law) (defScope st_law) :=
  ⟨f, fd, F, fnV_ok F sc_law (by decide) (by decide) (by decide) (fun J hJ => body_law g C__law_right C__law_pot hJ), hm, F.bindsN fun _ _ _ _ _ _ us hl => match us, hl with | [_], _ => rfl⟩
end
/-! ### the head -/
def dd_is_integer : He.DefD := ⟨("is_integer", none), "is_integer", "is_integer", defArgs st_is_integer, defBody st_is_integer, defScope st_is_integer, [], []⟩
def dd_is_count : He.DefD := ⟨("is_count", none), "is_count", "is_count", defArgs st_is_count, defBody st_is_count, defScope st_is_count, [], []⟩
def dd_colour_many : He.DefD := ⟨("colour_many", none), "colour_many", "colour_many", defArgs st_colour_many, defBody st_colour_many, defScope st_colour_many, [], []⟩
def dd_is_colouring : He.DefD := ⟨("is_colouring", none), "is_colouring", "is_colouring", defArgs st_is_colouring, defBody st_is_colouring, defScope st_is_colouring, [], []⟩
def dd_cells_of : He.DefD := ⟨("cells_of", none), "cells_of", "cells_of", defArgs st_cells_of, defBody st_cells_of, defScope st_cells_of, [], []⟩
def dd_trace_of : He.DefD := ⟨("trace_of", none), "trace_of", "trace_of", defArgs st_trace_of, defBody st_trace_of, defScope st_trace_of, [], []⟩
def dd_is_discrete : He.DefD := ⟨("is_discrete", none), "is_discrete", "is_discrete", defArgs st_is_discrete, defBody st_is_discrete, defScope st_is_discrete, [], []⟩
def dd_is_finer : He.DefD := ⟨("is_finer", none), "is_finer", "is_finer", defArgs st_is_finer, defBody st_is_finer, defScope st_is_finer, [], []⟩
def dd_keeps_sequence : He.DefD := ⟨("keeps_sequence", none), "keeps_sequence", "keeps_sequence", defArgs st_keeps_sequence, defBody st_keeps_sequence, defScope st_keeps_sequence, [], []⟩
def dd_colouring_led : He.DefD := ⟨("colouring_led", none), "colouring_led", "colouring_led", defArgs st_colouring_led, defBody st_colouring_led, defScope st_colouring_led, [], []⟩
def dd__law_pot : He.DefD := ⟨("_law_pot", none), "_law_pot", "_law_pot", defArgs st__law_pot, defBody st__law_pot, defScope st__law_pot, [], []⟩
def dd__law_draw : He.DefD := ⟨("_law_draw", none), "_law_draw", "_law_draw", defArgs st__law_draw, defBody st__law_draw, defScope st__law_draw, [], []⟩
def dd__law_row : He.DefD := ⟨("_law_row", none), "_law_row", "_law_row", defArgs st__law_row, defBody st__law_row, defScope st__law_row, [], []⟩
def dd__law_ranked : He.DefD := ⟨("_law_ranked", none), "_law_ranked", "_law_ranked", defArgs st__law_ranked, defBody st__law_ranked, defScope st__law_ranked, [], []⟩
def dd__law_tint : He.DefD := ⟨("_law_tint", none), "_law_tint", "_law_tint", defArgs st__law_tint, defBody st__law_tint, defScope st__law_tint, [], []⟩
def dd__law_cells : He.DefD := ⟨("_law_cells", none), "_law_cells", "_law_cells", defArgs st__law_cells, defBody st__law_cells, defScope st__law_cells, [], []⟩
def dd__law_near : He.DefD := ⟨("_law_near", none), "_law_near", "_law_near", defArgs st__law_near, defBody st__law_near, defScope st__law_near, [], []⟩
def dd__law_is_one : He.DefD := ⟨("_law_is_one", none), "_law_is_one", "_law_is_one", defArgs st__law_is_one, defBody st__law_is_one, defScope st__law_is_one, [], []⟩
def dd__law_compared : He.DefD := ⟨("_law_compared", none), "_law_compared", "_law_compared", defArgs st__law_compared, defBody st__law_compared, defScope st__law_compared, [], []⟩
def dd__law_coarser : He.DefD := ⟨("_law_coarser", none), "_law_coarser", "_law_coarser", defArgs st__law_coarser, defBody st__law_coarser, defScope st__law_coarser, [], []⟩
def dd__law_right : He.DefD := ⟨("_law_right", none), "_law_right", "_law_right", defArgs st__law_right, defBody st__law_right, defScope st__law_right, [], []⟩
def dd_law : He.DefD := ⟨("law", none), "law", "law", defArgs st_law, defBody st_law, defScope st_law, [], []⟩
def fn : List He.DefD := [dd_is_integer, dd_is_count, dd_colour_many, dd_is_colouring, dd_cells_of, dd_trace_of, dd_is_discrete, dd_is_finer, dd_keeps_sequence, dd_colouring_led, dd__law_pot, dd__law_draw, dd__law_row, dd__law_ranked, dd__law_tint, dd__law_cells, dd__law_near, dd__law_is_one, dd__law_compared, dd__law_coarser, dd__law_right, dd_law]
def fa : List He.Fa := [.glo "is_integer", .glo "is_count", .glo "colour_many", .glo "is_colouring", .glo "cells_of", .glo "trace_of", .glo "is_discrete", .glo "is_finer", .glo "keeps_sequence", .glo "colouring_led", .glo "_law_pot", .glo "_law_draw", .glo "_law_row", .glo "_law_ranked", .glo "_law_tint", .glo "_law_cells", .glo "_law_near", .glo "_law_is_one", .glo "_law_compared", .glo "_law_coarser", .glo "_law_right", .glo "law", .free "abs", .free "bool", .free "divmod", .free "enumerate", .free "int", .free "isinstance", .free "len", .free "list", .free "max", .free "range", .free "repr", .free "sorted", .free "tuple", .free "zip"]
theorem facts {P : Program} {w : World} {K : Frag} {h : Heap} {mg : Str → Option Value} (X : K.In h) (G : h.Ns mainGlobals mg) (c : He.SaysD fa fn K) :
    ∃ (f : Addr) (fd : FuncData), mg "law" = some (.ref f) ∧ (∀ (s : Shared) (v : Value), BindsTo s fd ⟨[v], []⟩ [("_law_script", v)]) ∧ ∀ base : Heap, FnG P w K mg base 22 f fd ["_law_script"] (spV K mg 1 [] fr_law) := by
  obtain ⟨fd0, F0⟩ := c.def_ 0 (d := dd_is_integer) rfl
  have g0 : mg "is_integer" = some (.ref _) := He.glo_ok X G (c.fact 0 (f := .glo "is_integer") rfl)
  obtain ⟨fd1, F1⟩ := c.def_ 1 (d := dd_is_count) rfl
  have g1 : mg "is_count" = some (.ref _) := He.glo_ok X G (c.fact 1 (f := .glo "is_count") rfl)
  obtain ⟨fd2, F2⟩ := c.def_ 2 (d := dd_colour_many) rfl
  have g2 : mg "colour_many" = some (.ref _) := He.glo_ok X G (c.fact 2 (f := .glo "colour_many") rfl)
  obtain ⟨fd3, F3⟩ := c.def_ 3 (d := dd_is_colouring) rfl
  have g3 : mg "is_colouring" = some (.ref _) := He.glo_ok X G (c.fact 3 (f := .glo "is_colouring") rfl)
  obtain ⟨fd4, F4⟩ := c.def_ 4 (d := dd_cells_of) rfl
  have g4 : mg "cells_of" = some (.ref _) := He.glo_ok X G (c.fact 4 (f := .glo "cells_of") rfl)
  obtain ⟨fd5, F5⟩ := c.def_ 5 (d := dd_trace_of) rfl
  have g5 : mg "trace_of" = some (.ref _) := He.glo_ok X G (c.fact 5 (f := .glo "trace_of") rfl)
  obtain ⟨fd6, F6⟩ := c.def_ 6 (d := dd_is_discrete) rfl
  have g6 : mg "is_discrete" = some (.ref _) := He.glo_ok X G (c.fact 6 (f := .glo "is_discrete") rfl)
  obtain ⟨fd7, F7⟩ := c.def_ 7 (d := dd_is_finer) rfl
  have g7 : mg "is_finer" = some (.ref _) := He.glo_ok X G (c.fact 7 (f := .glo "is_finer") rfl)
  obtain ⟨fd8, F8⟩ := c.def_ 8 (d := dd_keeps_sequence) rfl
  have g8 : mg "keeps_sequence" = some (.ref _) := He.glo_ok X G (c.fact 8 (f := .glo "keeps_sequence") rfl)
  obtain ⟨fd9, F9⟩ := c.def_ 9 (d := dd_colouring_led) rfl
  have g9 : mg "colouring_led" = some (.ref _) := He.glo_ok X G (c.fact 9 (f := .glo "colouring_led") rfl)
  obtain ⟨fd10, F10⟩ := c.def_ 10 (d := dd__law_pot) rfl
  have g10 : mg "_law_pot" = some (.ref _) := He.glo_ok X G (c.fact 10 (f := .glo "_law_pot") rfl)
  obtain ⟨fd11, F11⟩ := c.def_ 11 (d := dd__law_draw) rfl
  have g11 : mg "_law_draw" = some (.ref _) := He.glo_ok X G (c.fact 11 (f := .glo "_law_draw") rfl)
  obtain ⟨fd12, F12⟩ := c.def_ 12 (d := dd__law_row) rfl
  have g12 : mg "_law_row" = some (.ref _) := He.glo_ok X G (c.fact 12 (f := .glo "_law_row") rfl)
  obtain ⟨fd13, F13⟩ := c.def_ 13 (d := dd__law_ranked) rfl
  have g13 : mg "_law_ranked" = some (.ref _) := He.glo_ok X G (c.fact 13 (f := .glo "_law_ranked") rfl)
  obtain ⟨fd14, F14⟩ := c.def_ 14 (d := dd__law_tint) rfl
  have g14 : mg "_law_tint" = some (.ref _) := He.glo_ok X G (c.fact 14 (f := .glo "_law_tint") rfl)
  obtain ⟨fd15, F15⟩ := c.def_ 15 (d := dd__law_cells) rfl
  have g15 : mg "_law_cells" = some (.ref _) := He.glo_ok X G (c.fact 15 (f := .glo "_law_cells") rfl)
  obtain ⟨fd16, F16⟩ := c.def_ 16 (d := dd__law_near) rfl
  have g16 : mg "_law_near" = some (.ref _) := He.glo_ok X G (c.fact 16 (f := .glo "_law_near") rfl)
  obtain ⟨fd17, F17⟩ := c.def_ 17 (d := dd__law_is_one) rfl
  have g17 : mg "_law_is_one" = some (.ref _) := He.glo_ok X G (c.fact 17 (f := .glo "_law_is_one") rfl)
  obtain ⟨fd18, F18⟩ := c.def_ 18 (d := dd__law_compared) rfl
  have g18 : mg "_law_compared" = some (.ref _) := He.glo_ok X G (c.fact 18 (f := .glo "_law_compared") rfl)
  obtain ⟨fd19, F19⟩ := c.def_ 19 (d := dd__law_coarser) rfl
  have g19 : mg "_law_coarser" = some (.ref _) := He.glo_ok X G (c.fact 19 (f := .glo "_law_coarser") rfl)
  obtain ⟨fd20, F20⟩ := c.def_ 20 (d := dd__law_right) rfl
  have g20 : mg "_law_right" = some (.ref _) := He.glo_ok X G (c.fact 20 (f := .glo "_law_right") rfl)
  obtain ⟨fd21, F21⟩ := c.def_ 21 (d := dd_law) rfl
  have g21 : mg "law" = some (.ref _) := He.glo_ok X G (c.fact 21 (f := .glo "law") rfl)
  have g : Fre mg := ⟨He.free_ok X G (c.fact 22 (f := .free "abs") rfl), He.free_ok X G (c.fact 23 (f := .free "bool") rfl), He.free_ok X G (c.fact 24 (f := .free "divmod") rfl), He.free_ok X G (c.fact 25 (f := .free "enumerate") rfl), He.free_ok X G (c.fact 26 (f := .free "int") rfl), He.free_ok X G (c.fact 27 (f := .free "isinstance") rfl), He.free_ok X G (c.fact 28 (f := .free "len") rfl), He.free_ok X G (c.fact 29 (f := .free "list") rfl), He.free_ok X G (c.fact 30 (f := .free "max") rfl), He.free_ok X G (c.fact 31 (f := .free "range") rfl), He.free_ok X G (c.fact 32 (f := .free "repr") rfl), He.free_ok X G (c.fact 33 (f := .free "sorted") rfl), He.free_ok X G (c.fact 34 (f := .free "tuple") rfl), He.free_ok X G (c.fact 35 (f := .free "zip") rfl)⟩
  refine ⟨_, fd21, g21, fun s v => (F21.bindsA (ps := ["_law_script"]) fun _ _ _ _ _ _ us hl => match us, hl with | [_], _ => rfl) s [v] rfl, fun base => ?_⟩
  have c0 := call_is_integer (P := P) (w := w) (base := base) g  F0 g0
  have c1 := call_is_count (P := P) (w := w) (base := base) g c0 F1 g1
  have c2 := call_colour_many (P := P) (w := w) (base := base) g  F2 g2
  have c3 := call_is_colouring (P := P) (w := w) (base := base) g c1 c2 F3 g3
  have c4 := call_cells_of (P := P) (w := w) (base := base) g c2 F4 g4
  have c5 := call_trace_of (P := P) (w := w) (base := base) g c4 F5 g5
  have c6 := call_is_discrete (P := P) (w := w) (base := base) g c2 F6 g6
  have c7 := call_is_finer (P := P) (w := w) (base := base) g  F7 g7
  have c8 := call_keeps_sequence (P := P) (w := w) (base := base) g  F8 g8
  have c9 := call_colouring_led (P := P) (w := w) (base := base) g  F9 g9
  have c10 := call__law_pot (P := P) (w := w) (base := base) g  F10 g10
  have c11 := call__law_draw (P := P) (w := w) (base := base) g  F11 g11
  have c12 := call__law_row (P := P) (w := w) (base := base) g c11 F12 g12
  have c13 := call__law_ranked (P := P) (w := w) (base := base) g  F13 g13
  have c14 := call__law_tint (P := P) (w := w) (base := base) g c11 c13 F14 g14
  have c15 := call__law_cells (P := P) (w := w) (base := base) g  F15 g15
  have c16 := call__law_near (P := P) (w := w) (base := base) g c11 F16 g16
  have c17 := call__law_is_one (P := P) (w := w) (base := base) g  F17 g17
  have c18 := call__law_compared (P := P) (w := w) (base := base) g  F18 g18
  have c19 := call__law_coarser (P := P) (w := w) (base := base) g c11 c13 F19 g19
  have c20 := call__law_right (P := P) (w := w) (base := base) g c11 c3 c14 c19 c12 c16 c17 c7 c8 c18 c15 c4 c5 c6 c9 F20 g20
  have c21 := call_law (P := P) (w := w) (base := base) g c20 c10 F21 g21
  have z := fnV_ok (P := P) (w := w) (mg := mg) (base := base) (k := 21) F21 sc_law (by decide) (by decide) (by decide) (fun J hJ => body_law g c20 c10 hJ)
  exact z
end Wk30
namespace Wk30
open PySem PySem.Spec VL
theorem draw_ok {p : D} {n : Int} (hp : Pot p) (h0 : 0 < n) (h1 : n < 1073741824) : ∃ d p', fr__law_draw [p, .int n] = .ok (.int d) [p'] ∧ Pot p' ∧ 0 ≤ d ∧ d < n := by
  obtain ⟨a, b, rfl, ha, hb, hb2⟩ := hp
  by_cases h : 0 < a
  · refine ⟨a % n, .lst true [.int (a / n), .int b], ?_, ⟨a / n, b, rfl, Int.ediv_nonneg ha (by omega), hb, hb2⟩, Int.emod_nonneg _ (by omega), Int.emod_lt_of_pos _ h0⟩
    simp [fr__law_draw, m__law_draw, fnM, sSeq, sIf, sAsg, sRet, sExpr, sNil, sPar, puts, tst, eOp, aCons, aNil, xN, xC, xMv, xS, xNot, xAnd, xOr, xIf, xInt, xL, tAndM, tOrM, tNotM, tTrue, fz, fzs, noOwn, noOwns, noFz, noFzs, fIx, fCmp, fI2, fI2c, fAdd, fSub, fMul, fMod, fDiv, fPow, fNeg, fAbs, fMax, fMin, fInt, fLen, fTup, fLst, fDivmod, fInts, cMul, cDiv, cPow, gTp, gsCons, gsNil, gSb, gNm, pNm, pIx, slP, getP, setP, mSet, mAppend, mPopAt, ownL, isLst, eMu, eMuG, L2.ixN, L2.atI, pickIO, putIO, mkAr, xCall, xCallE, xCallT, bVl, bPl, bNil, kill, iSeq, iR1, iR2, iEn, iZp, sFor, fits, i62_eq, i64_eq, ltI_eq, fzs_ints, noOwns_ints, noFzs_ints, okD_ints, ints_map, fEq, fNe, okI, okL, eqD_int, eqD_ints, eqD_nil, h, h0, h1]
  · have c1 : 0 ≤ (b * 39373 + 9221) % 2147483587 := Int.emod_nonneg _ (by omega)
    have c2 : (b * 39373 + 9221) % 2147483587 < 2147483587 := Int.emod_lt_of_pos _ (by omega)
    refine ⟨((b * 39373 + 9221) % 2147483587 * ((b * 39373 + 9221) % 2147483587) % 2147483563 / 17) % n, .lst true [.int a, .int ((b * 39373 + 9221) % 2147483587)], ?_, ⟨a, _, rfl, ha, c1, by omega⟩, Int.emod_nonneg _ (by omega), Int.emod_lt_of_pos _ h0⟩
    have c3 : -(2 ^ 64) < (b * 39373 + 9221) % 2147483587 := by omega
    have c4 : (b * 39373 + 9221) % 2147483587 < 2 ^ 64 := by omega
    simp at c3 c4
    simp [fr__law_draw, m__law_draw, fnM, sSeq, sIf, sAsg, sRet, sExpr, sNil, sPar, puts, tst, eOp, aCons, aNil, xN, xC, xMv, xS, xNot, xAnd, xOr, xIf, xInt, xL, tAndM, tOrM, tNotM, tTrue, fz, fzs, noOwn, noOwns, noFz, noFzs, fIx, fCmp, fI2, fI2c, fAdd, fSub, fMul, fMod, fDiv, fPow, fNeg, fAbs, fMax, fMin, fInt, fLen, fTup, fLst, fDivmod, fInts, cMul, cDiv, cPow, gTp, gsCons, gsNil, gSb, gNm, pNm, pIx, slP, getP, setP, mSet, mAppend, mPopAt, ownL, isLst, eMu, eMuG, L2.ixN, L2.atI, pickIO, putIO, mkAr, xCall, xCallE, xCallT, bVl, bPl, bNil, kill, iSeq, iR1, iR2, iEn, iZp, sFor, fits, i62_eq, i64_eq, ltI_eq, fzs_ints, noOwns_ints, noFzs_ints, okD_ints, ints_map, fEq, fNe, okI, okL, eqD_int, eqD_ints, eqD_nil, Option.or, h, h0, h1, c3, c4]
theorem pot_ok (ns : List Int) (k : Int) (hk : 0 ≤ k ∧ k ≤ 1) : ∃ p, fr__law_pot [.wl (ns.map D.int), .int k] = .ok p [] ∧ Pot p := by
  have fin : ∀ c : Int, 0 ≤ c → Pot (.lst true [.int (if c - 10 ^ 18 > 0 then c - 10 ^ 18 else 0), .int ((c % 2147483549 * 40014 + 9221 * k + 53) % 2147483563 + 1)]) := fun c hc => by
    have h1 : 0 ≤ (c % 2147483549 * 40014 + 9221 * k + 53) % 2147483563 := Int.emod_nonneg _ (by omega)
    have h2 : (c % 2147483549 * 40014 + 9221 * k + 53) % 2147483563 < 2147483563 := Int.emod_lt_of_pos _ (by omega)
    refine ⟨_, _, rfl, ?_, by omega, by omega⟩
    split <;> omega
  have hk1 : -(2 ^ 64) < k ∧ k < 2 ^ 64 := by omega
  simp at hk1
  by_cases h : k < ns.length
  · have hk2 : k.toNat < ns.length := by omega
    refine ⟨_, ?_, fin (if ns[k.toNat] < 0 then -ns[k.toNat] else ns[k.toNat]) (by split <;> omega)⟩
    simp [fr__law_pot, m__law_pot, fnM, sSeq, sIf, sAsg, sRet, sExpr, sNil, sPar, puts, tst, eOp, aCons, aNil, xN, xC, xMv, xS, xNot, xAnd, xOr, xIf, xInt, xL, tAndM, tOrM, tNotM, tTrue, fz, fzs, noOwn, noOwns, noFz, noFzs, fIx, fCmp, fI2, fI2c, fAdd, fSub, fMul, fMod, fDiv, fPow, fNeg, fAbs, fMax, fMin, fInt, fLen, fTup, fLst, fDivmod, fInts, cMul, cDiv, cPow, gTp, gsCons, gsNil, gSb, gNm, pNm, pIx, slP, getP, setP, mSet, mAppend, mPopAt, ownL, isLst, eMu, eMuG, L2.ixN, L2.atI, pickIO, putIO, mkAr, xCall, xCallE, xCallT, bVl, bPl, bNil, kill, iSeq, iR1, iR2, iEn, iZp, sFor, fits, i62_eq, i64_eq, ltI_eq, fzs_ints, noOwns_ints, noFzs_ints, okD_ints, ints_map, fEq, fNe, okI, okL, eqD_int, eqD_ints, eqD_nil, Option.or, h, hk.1, hk2, hk1]
  · refine ⟨_, ?_, fin (613 * k + 41) (by omega)⟩
    simp [fr__law_pot, m__law_pot, fnM, sSeq, sIf, sAsg, sRet, sExpr, sNil, sPar, puts, tst, eOp, aCons, aNil, xN, xC, xMv, xS, xNot, xAnd, xOr, xIf, xInt, xL, tAndM, tOrM, tNotM, tTrue, fz, fzs, noOwn, noOwns, noFz, noFzs, fIx, fCmp, fI2, fI2c, fAdd, fSub, fMul, fMod, fDiv, fPow, fNeg, fAbs, fMax, fMin, fInt, fLen, fTup, fLst, fDivmod, fInts, cMul, cDiv, cPow, gTp, gsCons, gsNil, gSb, gNm, pNm, pIx, slP, getP, setP, mSet, mAppend, mPopAt, ownL, isLst, eMu, eMuG, L2.ixN, L2.atI, pickIO, putIO, mkAr, xCall, xCallE, xCallT, bVl, bPl, bNil, kill, iSeq, iR1, iR2, iEn, iZp, sFor, fits, i62_eq, i64_eq, ltI_eq, fzs_ints, noOwns_ints, noFzs_ints, okD_ints, ints_map, fEq, fNe, okI, okL, eqD_int, eqD_ints, eqD_nil, Option.or, h, hk1]
theorem draw_call {p : D} {n : Int} (hp : Pot p) (h0 : 0 < n) (h1 : n < 1073741824) {s s' : Sl} {i : Nat} {mas : M (List AD)} {as : List AD} {e : Bool} (hm : bPl i mas s = .ok [.pl i, .vl (.int n)] s' e) (hs : s'[i]? = some (some p)) :
    ∃ d p', xCallE [0] fr__law_draw (bPl i mas) s = .ok (true, .int d) (s'.set i none |>.set i (some p')) true ∧ Pot p' ∧ 0 ≤ d ∧ d < n := by
  obtain ⟨d, p', h2, h3, h4⟩ := draw_ok hp h0 h1
  refine ⟨d, p', ?_, h3, h4⟩
  simp [xCallE, hm, mkAr, hs, fz, h2, putIO]
theorem row_loop (n : Int) : ∀ (k : Nat) (lo : Int) (left acc : List Int) (p : D), Pot p → left.length = k → k ≤ 1000 → acc.length + k ≤ 1000 → ∃ row p', Pot p' ∧ row.Perm left ∧
    loopM (gNm 4) (sExpr (eMu 3 (pNm 3) (aCons (eMu 2 (pNm 2) (aCons (xCallE [0] fr__law_draw (bPl 0 (bVl (e1 (xN 2) fLen) bNil))) aNil) mPopAt) aNil) mAppend)) [4] (rngD lo k) [some p, some (.int n), some (.lst true (left.map D.int)), some (.lst true (acc.map D.int)), none] = .nx [some p', some (.int n), some (.lst true []), some (.lst true ((acc ++ row).map D.int)), none] := by
  intro k
  induction k with
  | zero =>
    intro lo left acc p hp hl _ _
    have : left = [] := List.eq_nil_of_length_eq_zero hl
    subst this
    exact ⟨[], p, hp, .refl _, by simp [rngD_zero, loopM]⟩
  | succ k ih =>
    intro lo left acc p hp hl hk ha
    obtain ⟨d, p1, e1, hp1, d0, d1⟩ := draw_ok (n := (left.length : Int)) hp (by omega) (by omega)
    have hd : d.toNat < left.length := by omega
    obtain ⟨row, p2, hp2, pm, e2⟩ := ih (lo + 1) (left.eraseIdx d.toNat) (acc ++ [left[d.toNat]]) p1 hp1 (by rw [List.length_eraseIdx_of_lt hd]; omega) (by omega) (by simp; omega)
    refine ⟨left[d.toNat] :: row, p2, hp2, ((pm.cons _).trans (perm_erase (List.getElem?_eq_getElem hd))), ?_⟩
    have h1 : -4611686018427387904 ≤ d ∧ d < 4611686018427387904 := by omega
    have h2 : acc.length ≤ 16777215 := by omega
    rw [rngD_succ]
    simp [loopM, fnM, sSeq, sIf, sAsg, sRet, sExpr, sNil, sPar, puts, tst, eOp, aCons, aNil, xN, xC, xMv, xS, xNot, xAnd, xOr, xIf, xInt, xL, tAndM, tOrM, tNotM, tTrue, fz, fzs, noOwn, noOwns, noFz, noFzs, fIx, fCmp, fI2, fI2c, fAdd, fSub, fMul, fMod, fDiv, fPow, fNeg, fAbs, fMax, fMin, fInt, fLen, fTup, fLst, fDivmod, fInts, cMul, cDiv, cPow, gTp, gsCons, gsNil, gSb, gNm, pNm, pIx, slP, getP, setP, mSet, mAppend, mPopAt, ownL, isLst, eMu, eMuG, L2.ixN, L2.atI, pickIO, putIO, mkAr, xCall, xCallE, xCallT, bVl, bPl, bNil, kill, iSeq, iR1, iR2, iEn, iZp, sFor, fits, i62_eq, i64_eq, ltI_eq, fzs_ints, noOwns_ints, noFzs_ints, okD_ints, ints_map, fEq, fNe, okI, okL, eqD_int, eqD_ints, eqD_nil, e1, h1, seqIx d0 d1, hd, map_erase, h2] at e2 ⊢
    exact e2
theorem row_ok {p : D} (hp : Pot p) {n : Nat} (hn : n ≤ 500) : ∃ (row : List Int) (p' : D), fr__law_row [p, .int n] = .ok (.lst true (row.map D.int)) [p'] ∧ Pot p' ∧ row.Perm (upto n) := by
  obtain ⟨row, p', h1, h2, h3⟩ := row_loop n n 0 (upto n) [] p hp (upto_length n) (by omega) (by simp; omega)
  refine ⟨row, p', ?_, h1, h2⟩
  have hr : rgOk 0 (n : Int) = true := by simp [rgOk, i62_eq, ltI_eq]; omega
  have c1 : -(2 ^ 62) ≤ (n : Int) ∧ (n : Int) < 2 ^ 62 := by omega
  simp at c1
  simp at h3
  simp [fr__law_row, m__law_row, fnM, sSeq, sIf, sAsg, sRet, sExpr, sNil, sPar, puts, tst, eOp, aCons, aNil, xN, xC, xMv, xS, xNot, xAnd, xOr, xIf, xInt, xL, tAndM, tOrM, tNotM, tTrue, fz, fzs, noOwn, noOwns, noFz, noFzs, fIx, fCmp, fI2, fI2c, fAdd, fSub, fMul, fMod, fDiv, fPow, fNeg, fAbs, fMax, fMin, fInt, fLen, fTup, fLst, fDivmod, fInts, cMul, cDiv, cPow, gTp, gsCons, gsNil, gSb, gNm, pNm, pIx, slP, getP, setP, mSet, mAppend, mPopAt, ownL, isLst, eMu, eMuG, L2.ixN, L2.atI, pickIO, putIO, mkAr, xCall, xCallE, xCallT, bVl, bPl, bNil, kill, iSeq, iR1, iR2, iEn, iZp, sFor, fits, i62_eq, i64_eq, ltI_eq, fzs_ints, noOwns_ints, noFzs_ints, okD_ints, ints_map, fEq, fNe, okI, okL, eqD_int, eqD_ints, eqD_nil, fRg, hr, gRg_upto, c1, h3]
end Wk30
namespace Wk30
open PySem PySem.Spec VL
/-! ### ranks -/
def ded (acc : List Int) (x : Int) : List Int := if acc = [] ∨ acc.getLast? ≠ some x then acc ++ [x] else acc
theorem ded_loop (keys : D) : ∀ (xs acc : List Int), acc.length + xs.length ≤ 1000 →
    loopM (gNm 2) (sIf (tOrM (tst (e2 (xN 1) (eOp aNil fLst) fEq)) (tst (e2 (e2 (xN 1) (e1 (xC (.int 1)) fNeg) fIx) (xN 2) fNe))) (sExpr (eMu 1 (pNm 1) (aCons (xN 2) aNil) mAppend)) sNil) [2] (xs.map D.int) [some keys, some (.lst true (acc.map D.int)), none] = .nx [some keys, some (.lst true ((xs.foldl ded acc).map D.int)), none]
  | [], acc, _ => by simp [loopM]
  | x :: xs, acc, hl => by
    have ih := ded_loop keys xs (ded acc x) (by
      simp only [List.length_cons] at hl
      unfold ded
      split
      · rw [List.length_append, List.length_singleton]; omega
      · omega)
    have h2 : acc.length ≤ 16777215 := by simp only [List.length_cons] at hl; omega
    rw [List.map_cons, List.foldl_cons]
    by_cases h : acc = []
    · subst h
      simp [ded] at ih
      simp [loopM, fnM, sSeq, sIf, sAsg, sRet, sExpr, sNil, sPar, puts, tst, eOp, aCons, aNil, xN, xC, xMv, xS, xNot, xAnd, xOr, xIf, xInt, xL, tAndM, tOrM, tNotM, tTrue, fz, fzs, noOwn, noOwns, noFz, noFzs, fIx, fCmp, fI2, fI2c, fAdd, fSub, fMul, fMod, fDiv, fPow, fNeg, fAbs, fMax, fMin, fInt, fLen, fTup, fLst, fDivmod, fInts, cMul, cDiv, cPow, gTp, gsCons, gsNil, gSb, gNm, pNm, pIx, slP, getP, setP, mSet, mAppend, mPopAt, ownL, isLst, eMu, eMuG, L2.ixN, L2.atI, pickIO, putIO, mkAr, xCall, xCallE, xCallT, bVl, bPl, bNil, kill, iSeq, iR1, iR2, iEn, iZp, sFor, fits, i62_eq, i64_eq, ltI_eq, fzs_ints, noOwns_ints, noFzs_ints, okD_ints, ints_map, fEq, fNe, okI, okL, eqD_int, eqD_ints, eqD_nil, fEq, okD, eqD, py, pys, PyData.eqv, PyData.eqvAll, ded] at ih ⊢
      exact ih
    · have hpos : 0 < acc.length := List.length_pos_iff.mpr h
      have hlast : acc[acc.length - 1]? = acc.getLast? := by rw [List.getLast?_eq_getElem?]
      obtain ⟨z, hz⟩ : ∃ z, acc.getLast? = some z := ⟨acc.getLast h, List.getLast?_eq_some_getLast h⟩
      have hne : ¬ (acc.map D.int = []) := by simpa using h
      have e1 : ¬ ((0 : Int) ≤ -1) := by omega
      have e2 : (-1 + (acc.length : Int)).toNat = acc.length - 1 := by omega
      have e3 : -(acc.length : Int) ≤ -1 := by omega
      have q := eqD_nil false true acc
      simp [h] at q
      by_cases hx : z = x
      · subst hx
        have hd : ded acc z = acc := by unfold ded; simp [h, hz]
        rw [hd] at ih ⊢
        simp [loopM, fnM, sSeq, sIf, sAsg, sRet, sExpr, sNil, sPar, puts, tst, eOp, aCons, aNil, xN, xC, xMv, xS, xNot, xAnd, xOr, xIf, xInt, xL, tAndM, tOrM, tNotM, tTrue, fz, fzs, noOwn, noOwns, noFz, noFzs, fIx, fCmp, fI2, fI2c, fAdd, fSub, fMul, fMod, fDiv, fPow, fNeg, fAbs, fMax, fMin, fInt, fLen, fTup, fLst, fDivmod, fInts, cMul, cDiv, cPow, gTp, gsCons, gsNil, gSb, gNm, pNm, pIx, slP, getP, setP, mSet, mAppend, mPopAt, ownL, isLst, eMu, eMuG, L2.ixN, L2.atI, pickIO, putIO, mkAr, xCall, xCallE, xCallT, bVl, bPl, bNil, kill, iSeq, iR1, iR2, iEn, iZp, sFor, fits, i62_eq, i64_eq, ltI_eq, fzs_ints, noOwns_ints, noFzs_ints, okD_ints, ints_map, fEq, fNe, okI, okL, eqD_int, eqD_ints, eqD_nil, fEq, fNe, okL, okI, okD, q, eqD_int, h, e2, e3, hlast, hz] at ih ⊢
        exact ih
      · have hd : ded acc x = acc ++ [x] := by unfold ded; simp [h, hz, hx]
        rw [hd] at ih ⊢
        simp [loopM, fnM, sSeq, sIf, sAsg, sRet, sExpr, sNil, sPar, puts, tst, eOp, aCons, aNil, xN, xC, xMv, xS, xNot, xAnd, xOr, xIf, xInt, xL, tAndM, tOrM, tNotM, tTrue, fz, fzs, noOwn, noOwns, noFz, noFzs, fIx, fCmp, fI2, fI2c, fAdd, fSub, fMul, fMod, fDiv, fPow, fNeg, fAbs, fMax, fMin, fInt, fLen, fTup, fLst, fDivmod, fInts, cMul, cDiv, cPow, gTp, gsCons, gsNil, gSb, gNm, pNm, pIx, slP, getP, setP, mSet, mAppend, mPopAt, ownL, isLst, eMu, eMuG, L2.ixN, L2.atI, pickIO, putIO, mkAr, xCall, xCallE, xCallT, bVl, bPl, bNil, kill, iSeq, iR1, iR2, iEn, iZp, sFor, fits, i62_eq, i64_eq, ltI_eq, fzs_ints, noOwns_ints, noFzs_ints, okD_ints, ints_map, fEq, fNe, okI, okL, eqD_int, eqD_ints, eqD_nil, fEq, fNe, okL, okI, okD, q, eqD_int, h, e2, e3, hlast, hz, hx, h2] at ih ⊢
        exact ih
theorem ded_spec : ∀ (xs acc : List Int), (acc ++ xs).Pairwise (· ≤ ·) → acc.Pairwise (· < ·) → (xs.foldl ded acc).Pairwise (· < ·) ∧ ∀ y, y ∈ xs.foldl ded acc ↔ y ∈ acc ∨ y ∈ xs
  | [], acc, _, h => ⟨h, fun y => by simp⟩
  | x :: xs, acc, hs, h => by
    rw [List.foldl_cons]
    have hle : ∀ y ∈ acc, y ≤ x := fun y hy => (List.pairwise_append.mp hs).2.2 y hy x (by simp)
    by_cases hc : acc = [] ∨ acc.getLast? ≠ some x
    · have hd : ded acc x = acc ++ [x] := by unfold ded; rw [if_pos hc]
      have hlt : ∀ y ∈ acc, y < x := fun y hy => by
        have hne : acc ≠ [] := fun z => by rw [z] at hy; cases hy
        have hl : acc.getLast? ≠ some x := hc.resolve_left hne
        have hz := List.getLast?_eq_some_getLast hne
        have hzm : acc.getLast hne ∈ acc := List.getLast_mem hne
        have hyz : y ≤ acc.getLast hne := by
          have e := List.dropLast_concat_getLast hne
          rw [← e] at hy h
          rcases List.mem_append.mp hy with m | m
          · exact Int.le_of_lt ((List.pairwise_append.mp h).2.2 y m _ (by simp))
          · have : y = acc.getLast hne := by simpa using m
            omega
        have hzx := hle _ hzm
        have : acc.getLast hne ≠ x := fun z => hl (by rw [hz, z])
        omega
      have hp : (acc ++ [x]).Pairwise (· < ·) := List.pairwise_append.mpr ⟨h, List.pairwise_singleton _ _, fun y hy z hz => by
        have : z = x := by simpa using hz
        rw [this]; exact hlt y hy⟩
      rw [hd]
      obtain ⟨h1, h2⟩ := ded_spec xs (acc ++ [x]) (by simpa using hs) hp
      refine ⟨h1, fun y => (h2 y).trans ?_⟩
      simp [or_assoc]
    · have hd : ded acc x = acc := by unfold ded; rw [if_neg hc]
      have hx : x ∈ acc := by
        have hl : acc.getLast? = some x := Classical.byContradiction fun z => hc (.inr z)
        exact List.mem_of_getLast? hl
      rw [hd]
      have hs' : (acc ++ xs).Pairwise (· ≤ ·) := hs.sublist (List.Sublist.append (List.Sublist.refl _) (List.sublist_cons_self _ _))
      obtain ⟨h1, h2⟩ := ded_spec xs acc hs' h
      refine ⟨h1, fun y => (h2 y).trans ⟨fun z => z.elim .inl fun z => .inr (by simp [z]), fun z => z.elim .inl fun z => ?_⟩⟩
      rcases List.mem_cons.mp z with rfl | z
      · exact .inl hx
      · exact .inr z
/-- a colouring: the colours are 0 .. m - 1, each used -/
def Col (t : List Int) : Prop := ∃ m : Nat, (∀ c ∈ t, 0 ≤ c ∧ c < m) ∧ ∀ j : Int, 0 ≤ j → j < m → j ∈ t
def rk (u : List Int) (k : Int) : Int := (((u.findIdx? fun z => decide (z = k)).getD 0 : Nat) : Int)
theorem rk_spec {u : List Int} (hu : u.Pairwise (· < ·)) {k : Int} (hk : k ∈ u) : u.findIdx? (fun z => decide (z = k)) = some (rk u k).toNat ∧ 0 ≤ rk u k ∧ rk u k < u.length ∧ u[(rk u k).toNat]? = some k := by
  cases h : u.findIdx? (fun z => decide (z = k)) with
  | none =>
    rw [List.findIdx?_eq_none_iff] at h
    have := h k hk
    simp at this
  | some j =>
    have e : rk u k = j := by unfold rk; rw [h]; rfl
    rw [e]
    rw [List.findIdx?_eq_some_iff_getElem] at h
    obtain ⟨hj, h2, _⟩ := h
    refine ⟨by simp, by omega, by omega, ?_⟩
    have h2 : u[j] = k := by simpa using h2
    simp [hj, h2]
theorem rk_col {u keys : List Int} (hu : u.Pairwise (· < ·)) (hk : ∀ y, y ∈ u ↔ y ∈ keys) : Col (keys.map (rk u)) := by
  refine ⟨u.length, fun c hc => ?_, fun j h0 h1 => ?_⟩
  · obtain ⟨k, hk', rfl⟩ := List.mem_map.mp hc
    have := rk_spec hu ((hk k).mpr hk')
    exact ⟨this.2.1, this.2.2.1⟩
  · have hj : j.toNat < u.length := by omega
    have hm : u[j.toNat] ∈ u := List.getElem_mem hj
    refine List.mem_map.mpr ⟨u[j.toNat], (hk _).mp hm, ?_⟩
    obtain ⟨_, a1, a2, a3⟩ := rk_spec hu hm
    have pw := List.pairwise_iff_getElem.mp hu
    have a4 : (rk u u[j.toNat]).toNat < u.length := by omega
    rw [List.getElem?_eq_getElem a4] at a3
    have a5 := Option.some.inj a3
    rcases Nat.lt_trichotomy (rk u u[j.toNat]).toNat j.toNat with z | z | z
    · have := pw _ _ a4 hj z
      omega
    · omega
    · have := pw _ _ hj a4 z
      omega
theorem ranked_ok (keys : List Int) (hl : keys.length ≤ 500) : ∃ rs : List Int, fr__law_ranked [.lst false (keys.map D.int)] = .ok (.lst true (rs.map D.int)) [] ∧ rs.length = keys.length ∧ Col rs := by
  have hsl : (sortI keys).length = keys.length := (sortI_perm keys).length_eq
  have h1 := ded_loop (.lst false (keys.map D.int)) (sortI keys) [] (by simp [hsl]; omega)
  have h2 := ded_spec (sortI keys) [] (by simpa using sortI_sorted keys) .nil
  generalize hu : (sortI keys).foldl ded [] = u at h1 h2
  have hmem : ∀ y, y ∈ u ↔ y ∈ keys := fun y => (h2.2 y).trans (by simp [(sortI_perm keys).mem_iff])
  refine ⟨keys.map (rk u), ?_, by simp, rk_col h2.1 hmem⟩
  have h3 := lcM_map (g := gNm 2) (me := e2 (xL (xN 1)) (xN 2) fIndex) (own := [2]) (s := [some (.lst false (keys.map D.int)), some (.lst true (u.map D.int)), none]) (f := fun d => match d with
    | .int k => .int (rk u k)
    | d => d) (items := keys.map D.int) (acc := []) (e := false) (fun d hd => by
      obtain ⟨k, hk, rfl⟩ := List.mem_map.mp hd
      have q := rk_spec h2.1 ((hmem k).mpr hk)
      refine ⟨[some (.lst false (keys.map D.int)), some (.lst true (u.map D.int)), some (.int k)], [some (.lst false (keys.map D.int)), some (.lst true (u.map D.int)), some (.int k)], true, rfl, ?_, rfl, rfl⟩
      · simp [fnM, sSeq, sIf, sAsg, sRet, sExpr, sNil, sPar, puts, tst, eOp, aCons, aNil, xN, xC, xMv, xS, xNot, xAnd, xOr, xIf, xInt, xL, tAndM, tOrM, tNotM, tTrue, fz, fzs, noOwn, noOwns, noFz, noFzs, fIx, fCmp, fI2, fI2c, fAdd, fSub, fMul, fMod, fDiv, fPow, fNeg, fAbs, fMax, fMin, fInt, fLen, fTup, fLst, fDivmod, fInts, cMul, cDiv, cPow, gTp, gsCons, gsNil, gSb, gNm, pNm, pIx, slP, getP, setP, mSet, mAppend, mPopAt, ownL, isLst, eMu, eMuG, L2.ixN, L2.atI, pickIO, putIO, mkAr, xCall, xCallE, xCallT, bVl, bPl, bNil, kill, iSeq, iR1, iR2, iEn, iZp, sFor, fits, i62_eq, i64_eq, ltI_eq, fzs_ints, noOwns_ints, noFzs_ints, okD_ints, ints_map, fEq, fNe, okI, okL, eqD_int, eqD_ints, eqD_nil, fIndex, okL, okI, idxD_ints, q.1]
        have := q.2.1
        omega) (by simp; omega)
  simp at h1 h3
  have hf : keys.length ≤ 16777216 := by omega
  simp [fr__law_ranked, m__law_ranked, fnM, sSeq, sIf, sAsg, sRet, sExpr, sNil, sPar, puts, tst, eOp, aCons, aNil, xN, xC, xMv, xS, xNot, xAnd, xOr, xIf, xInt, xL, tAndM, tOrM, tNotM, tTrue, fz, fzs, noOwn, noOwns, noFz, noFzs, fIx, fCmp, fI2, fI2c, fAdd, fSub, fMul, fMod, fDiv, fPow, fNeg, fAbs, fMax, fMin, fInt, fLen, fTup, fLst, fDivmod, fInts, cMul, cDiv, cPow, gTp, gsCons, gsNil, gSb, gNm, pNm, pIx, slP, getP, setP, mSet, mAppend, mPopAt, ownL, isLst, eMu, eMuG, L2.ixN, L2.atI, pickIO, putIO, mkAr, xCall, xCallE, xCallT, bVl, bPl, bNil, kill, iSeq, iR1, iR2, iEn, iZp, sFor, fits, i62_eq, i64_eq, ltI_eq, fzs_ints, noOwns_ints, noFzs_ints, okD_ints, ints_map, fEq, fNe, okI, okL, eqD_int, eqD_ints, eqD_nil, gSort, h1, xLc, h3, hsl, hf, Function.comp_def]
end Wk30
namespace Wk30
open PySem PySem.Spec VL
theorem draws_loop (n w : Int) (hw : 0 < w ∧ w < 1073741824) : ∀ (k : Nat) (lo : Int) (acc : List Int) (p : D) (e : Bool), Pot p → acc.length + k ≤ 1000 → ∃ (ds : List Int) (p' : D) (e' : Bool), Pot p' ∧ ds.length = k ∧
    lcM (gNm 3) tTrue (xCallE [0] fr__law_draw (bPl 0 (bVl (xN 2) bNil))) [3] (rngD lo k) (acc.map D.int) [some p, some (.int n), some (.int w), none] e = .ok ((acc ++ ds).map D.int) [some p', some (.int n), some (.int w), none] e'
  | 0, lo, acc, p, e, hp, _ => ⟨[], p, e, hp, rfl, by simp [rngD_zero, lcM]⟩
  | k + 1, lo, acc, p, e, hp, hl => by
    obtain ⟨d, p1, e1, hp1, d0, d1⟩ := draw_ok hp hw.1 hw.2
    obtain ⟨ds, p2, e', hp2, hd, h2⟩ := draws_loop n w hw k (lo + 1) (acc ++ [d]) p1 true hp1 (by simp only [List.length_append, List.length_singleton]; omega)
    refine ⟨d :: ds, p2, e', hp2, by simp [hd], ?_⟩
    have hf : acc.length ≤ 16777215 := by omega
    rw [rngD_succ]
    simp at h2
    simp [lcM, fnM, sSeq, sIf, sAsg, sRet, sExpr, sNil, sPar, puts, tst, eOp, aCons, aNil, xN, xC, xMv, xS, xNot, xAnd, xOr, xIf, xInt, xL, tAndM, tOrM, tNotM, tTrue, fz, fzs, noOwn, noOwns, noFz, noFzs, fIx, fCmp, fI2, fI2c, fAdd, fSub, fMul, fMod, fDiv, fPow, fNeg, fAbs, fMax, fMin, fInt, fLen, fTup, fLst, fDivmod, fInts, cMul, cDiv, cPow, gTp, gsCons, gsNil, gSb, gNm, pNm, pIx, slP, getP, setP, mSet, mAppend, mPopAt, ownL, isLst, eMu, eMuG, L2.ixN, L2.atI, pickIO, putIO, mkAr, xCall, xCallE, xCallT, bVl, bPl, bNil, kill, iSeq, iR1, iR2, iEn, iZp, sFor, fits, i62_eq, i64_eq, ltI_eq, fzs_ints, noOwns_ints, noFzs_ints, okD_ints, ints_map, fEq, fNe, okI, okL, eqD_int, eqD_ints, eqD_nil, e1, hf, h2]
theorem tint_ok {p : D} (hp : Pot p) {n : Nat} (hn : n ≤ 400) : ∃ (t : List Int) (p' : D), fr__law_tint [p, .int n] = .ok (.lst true (t.map D.int)) [p'] ∧ Pot p' ∧ t.length = n ∧ Col t := by
  obtain ⟨d, p1, e1, hp1, d0, d1⟩ := draw_ok hp (n := 5) (by omega) (by omega)
  have c1 : -4611686018427387904 ≤ (n : Int) ∧ (n : Int) < 4611686018427387904 := by omega
  have key : ∀ w : Int, 0 < w ∧ w < 1073741824 → L2.atI [D.int 1, .int 1, .int 2, .int 3, .int (n + 1)] d = some (.int w) → ∃ (t : List Int) (p' : D), fr__law_tint [p, .int n] = .ok (.lst true (t.map D.int)) [p'] ∧ Pot p' ∧ t.length = n ∧ Col t := fun w hw hat => by
    obtain ⟨ds, p2, e', hp2, hd, h2⟩ := draws_loop n w hw n 0 [] p1 false hp1 (by simp; omega)
    obtain ⟨rs, h3, h4, h5⟩ := ranked_ok ds (by omega)
    refine ⟨rs, p2, ?_, hp2, by omega, h5⟩
    simp at h2
    unfold L2.atI L2.ixN at hat
    simp at hat
    simp [fr__law_tint, m__law_tint, fnM, sSeq, sIf, sAsg, sRet, sExpr, sNil, sPar, puts, tst, eOp, aCons, aNil, xN, xC, xMv, xS, xNot, xAnd, xOr, xIf, xInt, xL, tAndM, tOrM, tNotM, tTrue, fz, fzs, noOwn, noOwns, noFz, noFzs, fIx, fCmp, fI2, fI2c, fAdd, fSub, fMul, fMod, fDiv, fPow, fNeg, fAbs, fMax, fMin, fInt, fLen, fTup, fLst, fDivmod, fInts, cMul, cDiv, cPow, gTp, gsCons, gsNil, gSb, gNm, pNm, pIx, slP, getP, setP, mSet, mAppend, mPopAt, ownL, isLst, eMu, eMuG, L2.ixN, L2.atI, pickIO, putIO, mkAr, xCall, xCallE, xCallT, bVl, bPl, bNil, kill, iSeq, iR1, iR2, iEn, iZp, sFor, fits, i62_eq, i64_eq, ltI_eq, fzs_ints, noOwns_ints, noFzs_ints, okD_ints, ints_map, fEq, fNe, okI, okL, eqD_int, eqD_ints, eqD_nil, e1, hat, xLc, c1, h2, h3]
  have hd : d = 0 ∨ d = 1 ∨ d = 2 ∨ d = 3 ∨ d = 4 := by omega
  rcases hd with rfl | rfl | rfl | rfl | rfl
  · exact key 1 (by omega) rfl
  · exact key 1 (by omega) rfl
  · exact key 2 (by omega) rfl
  · exact key 3 (by omega) rfl
  · exact key (n + 1) (by omega) rfl
theorem coarser_ok {p : D} (hp : Pot p) (t : List Int) (ht : t.length ≤ 400) : ∃ (r : List Int) (p' : D), fr__law_coarser [p, .lst false (t.map D.int)] = .ok (.lst true (r.map D.int)) [p'] ∧ Pot p' ∧ r.length = t.length ∧ Col r := by
  obtain ⟨d, p1, e1, hp1, d0, d1⟩ := draw_ok hp (n := 3) (by omega) (by omega)
  obtain ⟨d', p2, e2', hp2, d0', d1'⟩ := draw_ok hp1 (n := 2) (by omega) (by omega)
  have hw : 0 < 1 + d ∧ 1 + d < 1073741824 := by omega
  by_cases h : d' = 0
  · subst h
    obtain ⟨ks, hks⟩ : ∃ ks, ks = t.map fun c => c / (1 + d) := ⟨_, rfl⟩
    have hkl : ks.length = t.length := by rw [hks, List.length_map]
    obtain ⟨rs, h3, h4, h5⟩ := ranked_ok ks (by omega)
    refine ⟨rs, p2, ?_, hp2, by omega, h5⟩
    have h6 := lcM_ints (g := gNm 3) (me := e2 (xN 3) (xN 2) fDiv) (own := [3]) (s := [some p2, some (.lst false (t.map D.int)), some (.int (1 + d)), none]) (e := false) (fun c => c / (1 + d)) hks (fun k hk => by
        refine ⟨[some p2, some (.lst false (t.map D.int)), some (.int (1 + d)), some (.int k)], [some p2, some (.lst false (t.map D.int)), some (.int (1 + d)), some (.int k)], true, rfl, ?_, rfl⟩
        simp [fnM, sSeq, sIf, sAsg, sRet, sExpr, sNil, sPar, puts, tst, eOp, aCons, aNil, xN, xC, xMv, xS, xNot, xAnd, xOr, xIf, xInt, xL, tAndM, tOrM, tNotM, tTrue, fz, fzs, noOwn, noOwns, noFz, noFzs, fIx, fCmp, fI2, fI2c, fAdd, fSub, fMul, fMod, fDiv, fPow, fNeg, fAbs, fMax, fMin, fInt, fLen, fTup, fLst, fDivmod, fInts, cMul, cDiv, cPow, gTp, gsCons, gsNil, gSb, gNm, pNm, pIx, slP, getP, setP, mSet, mAppend, mPopAt, ownL, isLst, eMu, eMuG, L2.ixN, L2.atI, pickIO, putIO, mkAr, xCall, xCallE, xCallT, bVl, bPl, bNil, kill, iSeq, iR1, iR2, iEn, iZp, sFor, fits, i62_eq, i64_eq, ltI_eq, fzs_ints, noOwns_ints, noFzs_ints, okD_ints, ints_map, fEq, fNe, okI, okL, eqD_int, eqD_ints, eqD_nil, hw]) (by omega)
    simp [fr__law_coarser, m__law_coarser, fnM, sSeq, sIf, sAsg, sRet, sExpr, sNil, sPar, puts, tst, eOp, aCons, aNil, xN, xC, xMv, xS, xNot, xAnd, xOr, xIf, xInt, xL, tAndM, tOrM, tNotM, tTrue, fz, fzs, noOwn, noOwns, noFz, noFzs, fIx, fCmp, fI2, fI2c, fAdd, fSub, fMul, fMod, fDiv, fPow, fNeg, fAbs, fMax, fMin, fInt, fLen, fTup, fLst, fDivmod, fInts, cMul, cDiv, cPow, gTp, gsCons, gsNil, gSb, gNm, pNm, pIx, slP, getP, setP, mSet, mAppend, mPopAt, ownL, isLst, eMu, eMuG, L2.ixN, L2.atI, pickIO, putIO, mkAr, xCall, xCallE, xCallT, bVl, bPl, bNil, kill, iSeq, iR1, iR2, iEn, iZp, sFor, fits, i62_eq, i64_eq, ltI_eq, fzs_ints, noOwns_ints, noFzs_ints, okD_ints, ints_map, fEq, fNe, okI, okL, eqD_int, eqD_ints, eqD_nil, e1, e2', xLc, h6, h3]
  · have hd' : d' = 1 := by omega
    subst hd'
    obtain ⟨ks, hks⟩ : ∃ ks, ks = t.map fun c => c % (1 + d) := ⟨_, rfl⟩
    have hkl : ks.length = t.length := by rw [hks, List.length_map]
    obtain ⟨rs, h3, h4, h5⟩ := ranked_ok ks (by omega)
    refine ⟨rs, p2, ?_, hp2, by omega, h5⟩
    have h6 := lcM_ints (g := gNm 3) (me := e2 (VL.e1 (xN 3) fInt) (xN 2) fMod) (own := [3]) (s := [some p2, some (.lst false (t.map D.int)), some (.int (1 + d)), none]) (e := false) (fun c => c % (1 + d)) hks (fun k hk => by
        refine ⟨[some p2, some (.lst false (t.map D.int)), some (.int (1 + d)), some (.int k)], [some p2, some (.lst false (t.map D.int)), some (.int (1 + d)), some (.int k)], true, rfl, ?_, rfl⟩
        simp [fnM, sSeq, sIf, sAsg, sRet, sExpr, sNil, sPar, puts, tst, eOp, aCons, aNil, xN, xC, xMv, xS, xNot, xAnd, xOr, xIf, xInt, xL, tAndM, tOrM, tNotM, tTrue, fz, fzs, noOwn, noOwns, noFz, noFzs, fIx, fCmp, fI2, fI2c, fAdd, fSub, fMul, fMod, fDiv, fPow, fNeg, fAbs, fMax, fMin, fInt, fLen, fTup, fLst, fDivmod, fInts, cMul, cDiv, cPow, gTp, gsCons, gsNil, gSb, gNm, pNm, pIx, slP, getP, setP, mSet, mAppend, mPopAt, ownL, isLst, eMu, eMuG, L2.ixN, L2.atI, pickIO, putIO, mkAr, xCall, xCallE, xCallT, bVl, bPl, bNil, kill, iSeq, iR1, iR2, iEn, iZp, sFor, fits, i62_eq, i64_eq, ltI_eq, fzs_ints, noOwns_ints, noFzs_ints, okD_ints, ints_map, fEq, fNe, okI, okL, eqD_int, eqD_ints, eqD_nil, hw]) (by omega)
    simp [fr__law_coarser, m__law_coarser, fnM, sSeq, sIf, sAsg, sRet, sExpr, sNil, sPar, puts, tst, eOp, aCons, aNil, xN, xC, xMv, xS, xNot, xAnd, xOr, xIf, xInt, xL, tAndM, tOrM, tNotM, tTrue, fz, fzs, noOwn, noOwns, noFz, noFzs, fIx, fCmp, fI2, fI2c, fAdd, fSub, fMul, fMod, fDiv, fPow, fNeg, fAbs, fMax, fMin, fInt, fLen, fTup, fLst, fDivmod, fInts, cMul, cDiv, cPow, gTp, gsCons, gsNil, gSb, gNm, pNm, pIx, slP, getP, setP, mSet, mAppend, mPopAt, ownL, isLst, eMu, eMuG, L2.ixN, L2.atI, pickIO, putIO, mkAr, xCall, xCallE, xCallT, bVl, bPl, bNil, kill, iSeq, iR1, iR2, iEn, iZp, sFor, fits, i62_eq, i64_eq, ltI_eq, fzs_ints, noOwns_ints, noFzs_ints, okD_ints, ints_map, fEq, fNe, okI, okL, eqD_int, eqD_ints, eqD_nil, e1, e2', xLc, h6, h3]
end Wk30
namespace Wk30
open PySem PySem.Spec VL
/-! ### kinds -/
theorem k_int (d : D) : L2.kitB (tyD d) "int" = some (match d with
    | .int _ => true
    | .bl _ => true
    | _ => false) := by
  have h1 : L2.kitB "NoneType" "int" = some false := by decide +kernel
  have h2 : L2.kitB "bool" "int" = some true := by decide +kernel
  have h3 : L2.kitB "int" "int" = some true := by decide +kernel
  have h4 : L2.kitB "str" "int" = some false := by decide +kernel
  have h5 : L2.kitB "list" "int" = some false := by decide +kernel
  have h6 : L2.kitB "tuple" "int" = some false := by decide +kernel
  have h7 : L2.kitB "dict" "int" = some false := by decide +kernel
  cases d <;> simp only [tyD, h1, h2, h3, h4, h5, h6, h7]
theorem k_bool (d : D) : L2.kitB (tyD d) "bool" = some (match d with
    | .bl _ => true
    | _ => false) := by
  have h1 : L2.kitB "NoneType" "bool" = some false := by decide +kernel
  have h2 : L2.kitB "bool" "bool" = some true := by decide +kernel
  have h3 : L2.kitB "int" "bool" = some false := by decide +kernel
  have h4 : L2.kitB "str" "bool" = some false := by decide +kernel
  have h5 : L2.kitB "list" "bool" = some false := by decide +kernel
  have h6 : L2.kitB "tuple" "bool" = some false := by decide +kernel
  have h7 : L2.kitB "dict" "bool" = some false := by decide +kernel
  cases d <;> simp only [tyD, h1, h2, h3, h4, h5, h6, h7]
theorem k_list (d : D) : L2.kitB (tyD d) "list" = some (match d with
    | .lst _ _ => true
    | .wl _ => true
    | _ => false) := by
  have h1 : L2.kitB "NoneType" "list" = some false := by decide +kernel
  have h2 : L2.kitB "bool" "list" = some false := by decide +kernel
  have h3 : L2.kitB "int" "list" = some false := by decide +kernel
  have h4 : L2.kitB "str" "list" = some false := by decide +kernel
  have h5 : L2.kitB "list" "list" = some true := by decide +kernel
  have h6 : L2.kitB "tuple" "list" = some false := by decide +kernel
  have h7 : L2.kitB "dict" "list" = some false := by decide +kernel
  cases d <;> simp only [tyD, h1, h2, h3, h4, h5, h6, h7]
mutual
theorem fz_fz : ∀ d : D, fz (fz d) = fz d
  | .lst _ xs => by simp [fz, fzs_fzs xs]
  | .tup xs => by simp [fz, fzs_fzs xs]
  | .wl xs => by simp [fz, fzs_fzs xs]
  | .dK _ _ xs => by simp [fz, fzs_fzs xs]
  | .dT _ _ xs => by simp [fz, fzs_fzs xs]
  | .non => rfl
  | .bl _ => rfl
  | .int _ => rfl
  | .str _ => rfl
theorem fzs_fzs : ∀ ds : List D, fzs (fzs ds) = fzs ds
  | [] => rfl
  | d :: ds => by simp [fzs, fz_fz d, fzs_fzs ds]
end
theorem tyD_fz (d : D) : tyD (fz d) = tyD d := by cases d <;> rfl
/-- an int, no bool -/
def intB : D → Bool
  | .int _ => true
  | _ => false
theorem is_integer_ok (d : D) : fr_is_integer [d] = .ok (.bl (intB d)) [] := by
  cases d <;> simp [fr_is_integer, m_is_integer, fnM, sSeq, sIf, sAsg, sRet, sExpr, sNil, sPar, puts, tst, eOp, aCons, aNil, xN, xC, xMv, xS, xNot, xAnd, xOr, xIf, xInt, xL, tAndM, tOrM, tNotM, tTrue, fz, fzs, noOwn, noOwns, noFz, noFzs, fIx, fCmp, fI2, fI2c, fAdd, fSub, fMul, fMod, fDiv, fPow, fNeg, fAbs, fMax, fMin, fInt, fLen, fTup, fLst, fDivmod, fInts, cMul, cDiv, cPow, gTp, gsCons, gsNil, gSb, gNm, pNm, pIx, slP, getP, setP, mSet, mAppend, mPopAt, ownL, isLst, eMu, eMuG, L2.ixN, L2.atI, pickIO, putIO, mkAr, xCall, xCallE, xCallT, bVl, bPl, bNil, kill, iSeq, iR1, iR2, iEn, iZp, sFor, fits, i62_eq, i64_eq, ltI_eq, fzs_ints, noOwns_ints, noFzs_ints, okD_ints, ints_map, fEq, fNe, okI, okL, eqD_int, eqD_ints, eqD_nil, fIsi, k_int, k_bool, intB]
def cntB : D → Bool
  | .int i => decide (0 ≤ i)
  | _ => false
theorem is_count_ok (d : D) : fr_is_count [d] = .ok (.bl (cntB d)) [] := by
  cases d <;> simp [fr_is_count, m_is_count, fnM, sSeq, sIf, sAsg, sRet, sExpr, sNil, sPar, puts, tst, eOp, aCons, aNil, xN, xC, xMv, xS, xNot, xAnd, xOr, xIf, xInt, xL, tAndM, tOrM, tNotM, tTrue, fz, fzs, noOwn, noOwns, noFz, noFzs, fIx, fCmp, fI2, fI2c, fAdd, fSub, fMul, fMod, fDiv, fPow, fNeg, fAbs, fMax, fMin, fInt, fLen, fTup, fLst, fDivmod, fInts, cMul, cDiv, cPow, gTp, gsCons, gsNil, gSb, gNm, pNm, pIx, slP, getP, setP, mSet, mAppend, mPopAt, ownL, isLst, eMu, eMuG, L2.ixN, L2.atI, pickIO, putIO, mkAr, xCall, xCallE, xCallT, bVl, bPl, bNil, kill, iSeq, iR1, iR2, iEn, iZp, sFor, fits, i62_eq, i64_eq, ltI_eq, fzs_ints, noOwns_ints, noFzs_ints, okD_ints, ints_map, fEq, fNe, okI, okL, eqD_int, eqD_ints, eqD_nil, is_integer_ok, intB, cntB]
theorem colour_many_ok (ns : List Int) (hl : ns.length ≤ 1000) : fr_colour_many [.lst false (ns.map D.int)] = .ok (.int (maxI (-1 :: ns) + 1)) [] := by
  have hf : 1 + ns.length ≤ 16777216 := by omega
  have e : ints? (D.int (-1) :: ns.map D.int) = some (-1 :: ns) := ints_map (-1 :: ns)
  simp [fr_colour_many, m_colour_many, fnM, sSeq, sIf, sAsg, sRet, sExpr, sNil, sPar, puts, tst, eOp, aCons, aNil, xN, xC, xMv, xS, xNot, xAnd, xOr, xIf, xInt, xL, tAndM, tOrM, tNotM, tTrue, fz, fzs, noOwn, noOwns, noFz, noFzs, fIx, fCmp, fI2, fI2c, fAdd, fSub, fMul, fMod, fDiv, fPow, fNeg, fAbs, fMax, fMin, fInt, fLen, fTup, fLst, fDivmod, fInts, cMul, cDiv, cPow, gTp, gsCons, gsNil, gSb, gNm, pNm, pIx, slP, getP, setP, mSet, mAppend, mPopAt, ownL, isLst, eMu, eMuG, L2.ixN, L2.atI, pickIO, putIO, mkAr, xCall, xCallE, xCallT, bVl, bPl, bNil, kill, iSeq, iR1, iR2, iEn, iZp, sFor, fits, i62_eq, i64_eq, ltI_eq, fzs_ints, noOwns_ints, noFzs_ints, okD_ints, ints_map, fEq, fNe, okI, okL, eqD_int, eqD_ints, eqD_nil, hf, fStrCat, fCat, Option.or, e, gMax]
def okE (many : Int) : D → Bool
  | .int i => decide (0 ≤ i) && decide (i < many)
  | _ => false
theorem isc_loop1 (many : Int) (v : D) : ∀ xs : List D, (∀ d ∈ xs, fz d = d) →
    (xs.all (okE many) = true → loopM (gNm 2) (sIf (tOrM (tNotM (tst (xCall fr_is_count (aCons (xN 2) aNil)))) (tst (e2 (xN 2) (xN 0) (fCmp fun i j => decide (j ≤ i))))) (sRet (xC (.bl false))) sNil) [2] xs [some (.int many), some v, none] = .nx [some (.int many), some v, none]) ∧
    (xs.all (okE many) = false → ∃ s', loopM (gNm 2) (sIf (tOrM (tNotM (tst (xCall fr_is_count (aCons (xN 2) aNil)))) (tst (e2 (xN 2) (xN 0) (fCmp fun i j => decide (j ≤ i))))) (sRet (xC (.bl false))) sNil) [2] xs [some (.int many), some v, none] = .rt (.bl false) s')
  | [], _ => ⟨fun _ => by simp [loopM], fun h => by simp at h⟩
  | d :: xs, hz => by
    obtain ⟨h1, h2⟩ := isc_loop1 many v xs (fun d hd => hz d (by simp [hd]))
    have hd := hz d (by simp)
    by_cases ho : okE many d = true
    · cases d <;> simp [okE] at ho
      rename_i i
      have hge : ¬ many ≤ i := by omega
      constructor
      · intro h
        simp [ho, okE] at h
        have h1' := h1 (by simpa [okE] using h)
        simp [loopM, fnM, sSeq, sIf, sAsg, sRet, sExpr, sNil, sPar, puts, tst, eOp, aCons, aNil, xN, xC, xMv, xS, xNot, xAnd, xOr, xIf, xInt, xL, tAndM, tOrM, tNotM, tTrue, fz, fzs, noOwn, noOwns, noFz, noFzs, fIx, fCmp, fI2, fI2c, fAdd, fSub, fMul, fMod, fDiv, fPow, fNeg, fAbs, fMax, fMin, fInt, fLen, fTup, fLst, fDivmod, fInts, cMul, cDiv, cPow, gTp, gsCons, gsNil, gSb, gNm, pNm, pIx, slP, getP, setP, mSet, mAppend, mPopAt, ownL, isLst, eMu, eMuG, L2.ixN, L2.atI, pickIO, putIO, mkAr, xCall, xCallE, xCallT, bVl, bPl, bNil, kill, iSeq, iR1, iR2, iEn, iZp, sFor, fits, i62_eq, i64_eq, ltI_eq, fzs_ints, noOwns_ints, noFzs_ints, okD_ints, ints_map, fEq, fNe, okI, okL, eqD_int, eqD_ints, eqD_nil, is_count_ok, cntB, ho.1, hge] at h1' ⊢
        exact h1'
      · intro h
        obtain ⟨s', e⟩ := h2 (by simpa [ho, okE] using h)
        refine ⟨s', ?_⟩
        simp [loopM, fnM, sSeq, sIf, sAsg, sRet, sExpr, sNil, sPar, puts, tst, eOp, aCons, aNil, xN, xC, xMv, xS, xNot, xAnd, xOr, xIf, xInt, xL, tAndM, tOrM, tNotM, tTrue, fz, fzs, noOwn, noOwns, noFz, noFzs, fIx, fCmp, fI2, fI2c, fAdd, fSub, fMul, fMod, fDiv, fPow, fNeg, fAbs, fMax, fMin, fInt, fLen, fTup, fLst, fDivmod, fInts, cMul, cDiv, cPow, gTp, gsCons, gsNil, gSb, gNm, pNm, pIx, slP, getP, setP, mSet, mAppend, mPopAt, ownL, isLst, eMu, eMuG, L2.ixN, L2.atI, pickIO, putIO, mkAr, xCall, xCallE, xCallT, bVl, bPl, bNil, kill, iSeq, iR1, iR2, iEn, iZp, sFor, fits, i62_eq, i64_eq, ltI_eq, fzs_ints, noOwns_ints, noFzs_ints, okD_ints, ints_map, fEq, fNe, okI, okL, eqD_int, eqD_ints, eqD_nil, is_count_ok, cntB, ho.1, hge] at e ⊢
        exact e
    · constructor
      · intro h
        simp [ho] at h
      · intro hx
        clear hx
        cases d
        case int i =>
          by_cases h0 : 0 ≤ i
          · have hge : many ≤ i := by simp [okE, h0] at ho; exact ho
            exact ⟨_, by simp [loopM, fnM, sSeq, sIf, sAsg, sRet, sExpr, sNil, sPar, puts, tst, eOp, aCons, aNil, xN, xC, xMv, xS, xNot, xAnd, xOr, xIf, xInt, xL, tAndM, tOrM, tNotM, tTrue, fz, fzs, noOwn, noOwns, noFz, noFzs, fIx, fCmp, fI2, fI2c, fAdd, fSub, fMul, fMod, fDiv, fPow, fNeg, fAbs, fMax, fMin, fInt, fLen, fTup, fLst, fDivmod, fInts, cMul, cDiv, cPow, gTp, gsCons, gsNil, gSb, gNm, pNm, pIx, slP, getP, setP, mSet, mAppend, mPopAt, ownL, isLst, eMu, eMuG, L2.ixN, L2.atI, pickIO, putIO, mkAr, xCall, xCallE, xCallT, bVl, bPl, bNil, kill, iSeq, iR1, iR2, iEn, iZp, sFor, fits, i62_eq, i64_eq, ltI_eq, fzs_ints, noOwns_ints, noFzs_ints, okD_ints, ints_map, fEq, fNe, okI, okL, eqD_int, eqD_ints, eqD_nil, is_count_ok, cntB, h0, hge]; rfl⟩
          · exact ⟨_, by simp [loopM, fnM, sSeq, sIf, sAsg, sRet, sExpr, sNil, sPar, puts, tst, eOp, aCons, aNil, xN, xC, xMv, xS, xNot, xAnd, xOr, xIf, xInt, xL, tAndM, tOrM, tNotM, tTrue, fz, fzs, noOwn, noOwns, noFz, noFzs, fIx, fCmp, fI2, fI2c, fAdd, fSub, fMul, fMod, fDiv, fPow, fNeg, fAbs, fMax, fMin, fInt, fLen, fTup, fLst, fDivmod, fInts, cMul, cDiv, cPow, gTp, gsCons, gsNil, gSb, gNm, pNm, pIx, slP, getP, setP, mSet, mAppend, mPopAt, ownL, isLst, eMu, eMuG, L2.ixN, L2.atI, pickIO, putIO, mkAr, xCall, xCallE, xCallT, bVl, bPl, bNil, kill, iSeq, iR1, iR2, iEn, iZp, sFor, fits, i62_eq, i64_eq, ltI_eq, fzs_ints, noOwns_ints, noFzs_ints, okD_ints, ints_map, fEq, fNe, okI, okL, eqD_int, eqD_ints, eqD_nil, is_count_ok, cntB, h0]; rfl⟩
        case wl xs => 
          simp [fz] at hd
          exact ⟨_, by simp [loopM, fnM, sSeq, sIf, sAsg, sRet, sExpr, sNil, sPar, puts, tst, eOp, aCons, aNil, xN, xC, xMv, xS, xNot, xAnd, xOr, xIf, xInt, xL, tAndM, tOrM, tNotM, tTrue, fz, fzs, noOwn, noOwns, noFz, noFzs, fIx, fCmp, fI2, fI2c, fAdd, fSub, fMul, fMod, fDiv, fPow, fNeg, fAbs, fMax, fMin, fInt, fLen, fTup, fLst, fDivmod, fInts, cMul, cDiv, cPow, gTp, gsCons, gsNil, gSb, gNm, pNm, pIx, slP, getP, setP, mSet, mAppend, mPopAt, ownL, isLst, eMu, eMuG, L2.ixN, L2.atI, pickIO, putIO, mkAr, xCall, xCallE, xCallT, bVl, bPl, bNil, kill, iSeq, iR1, iR2, iEn, iZp, sFor, fits, i62_eq, i64_eq, ltI_eq, fzs_ints, noOwns_ints, noFzs_ints, okD_ints, ints_map, fEq, fNe, okI, okL, eqD_int, eqD_ints, eqD_nil, hd, is_count_ok, cntB]; rfl⟩
        case lst o xs => 
          simp [fz] at hd
          exact ⟨_, by simp [loopM, fnM, sSeq, sIf, sAsg, sRet, sExpr, sNil, sPar, puts, tst, eOp, aCons, aNil, xN, xC, xMv, xS, xNot, xAnd, xOr, xIf, xInt, xL, tAndM, tOrM, tNotM, tTrue, fz, fzs, noOwn, noOwns, noFz, noFzs, fIx, fCmp, fI2, fI2c, fAdd, fSub, fMul, fMod, fDiv, fPow, fNeg, fAbs, fMax, fMin, fInt, fLen, fTup, fLst, fDivmod, fInts, cMul, cDiv, cPow, gTp, gsCons, gsNil, gSb, gNm, pNm, pIx, slP, getP, setP, mSet, mAppend, mPopAt, ownL, isLst, eMu, eMuG, L2.ixN, L2.atI, pickIO, putIO, mkAr, xCall, xCallE, xCallT, bVl, bPl, bNil, kill, iSeq, iR1, iR2, iEn, iZp, sFor, fits, i62_eq, i64_eq, ltI_eq, fzs_ints, noOwns_ints, noFzs_ints, okD_ints, ints_map, fEq, fNe, okI, okL, eqD_int, eqD_ints, eqD_nil, hd, is_count_ok, cntB]; rfl⟩
        case tup xs => 
          simp [fz] at hd
          exact ⟨_, by simp [loopM, fnM, sSeq, sIf, sAsg, sRet, sExpr, sNil, sPar, puts, tst, eOp, aCons, aNil, xN, xC, xMv, xS, xNot, xAnd, xOr, xIf, xInt, xL, tAndM, tOrM, tNotM, tTrue, fz, fzs, noOwn, noOwns, noFz, noFzs, fIx, fCmp, fI2, fI2c, fAdd, fSub, fMul, fMod, fDiv, fPow, fNeg, fAbs, fMax, fMin, fInt, fLen, fTup, fLst, fDivmod, fInts, cMul, cDiv, cPow, gTp, gsCons, gsNil, gSb, gNm, pNm, pIx, slP, getP, setP, mSet, mAppend, mPopAt, ownL, isLst, eMu, eMuG, L2.ixN, L2.atI, pickIO, putIO, mkAr, xCall, xCallE, xCallT, bVl, bPl, bNil, kill, iSeq, iR1, iR2, iEn, iZp, sFor, fits, i62_eq, i64_eq, ltI_eq, fzs_ints, noOwns_ints, noFzs_ints, okD_ints, ints_map, fEq, fNe, okI, okL, eqD_int, eqD_ints, eqD_nil, hd, is_count_ok, cntB]; rfl⟩
        case dK o ks xs => 
          simp [fz] at hd
          exact ⟨_, by simp [loopM, fnM, sSeq, sIf, sAsg, sRet, sExpr, sNil, sPar, puts, tst, eOp, aCons, aNil, xN, xC, xMv, xS, xNot, xAnd, xOr, xIf, xInt, xL, tAndM, tOrM, tNotM, tTrue, fz, fzs, noOwn, noOwns, noFz, noFzs, fIx, fCmp, fI2, fI2c, fAdd, fSub, fMul, fMod, fDiv, fPow, fNeg, fAbs, fMax, fMin, fInt, fLen, fTup, fLst, fDivmod, fInts, cMul, cDiv, cPow, gTp, gsCons, gsNil, gSb, gNm, pNm, pIx, slP, getP, setP, mSet, mAppend, mPopAt, ownL, isLst, eMu, eMuG, L2.ixN, L2.atI, pickIO, putIO, mkAr, xCall, xCallE, xCallT, bVl, bPl, bNil, kill, iSeq, iR1, iR2, iEn, iZp, sFor, fits, i62_eq, i64_eq, ltI_eq, fzs_ints, noOwns_ints, noFzs_ints, okD_ints, ints_map, fEq, fNe, okI, okL, eqD_int, eqD_ints, eqD_nil, hd, is_count_ok, cntB]; rfl⟩
        case dT o ks xs => 
          simp [fz] at hd
          exact ⟨_, by simp [loopM, fnM, sSeq, sIf, sAsg, sRet, sExpr, sNil, sPar, puts, tst, eOp, aCons, aNil, xN, xC, xMv, xS, xNot, xAnd, xOr, xIf, xInt, xL, tAndM, tOrM, tNotM, tTrue, fz, fzs, noOwn, noOwns, noFz, noFzs, fIx, fCmp, fI2, fI2c, fAdd, fSub, fMul, fMod, fDiv, fPow, fNeg, fAbs, fMax, fMin, fInt, fLen, fTup, fLst, fDivmod, fInts, cMul, cDiv, cPow, gTp, gsCons, gsNil, gSb, gNm, pNm, pIx, slP, getP, setP, mSet, mAppend, mPopAt, ownL, isLst, eMu, eMuG, L2.ixN, L2.atI, pickIO, putIO, mkAr, xCall, xCallE, xCallT, bVl, bPl, bNil, kill, iSeq, iR1, iR2, iEn, iZp, sFor, fits, i62_eq, i64_eq, ltI_eq, fzs_ints, noOwns_ints, noFzs_ints, okD_ints, ints_map, fEq, fNe, okI, okL, eqD_int, eqD_ints, eqD_nil, hd, is_count_ok, cntB]; rfl⟩
        all_goals exact ⟨_, by simp [loopM, fnM, sSeq, sIf, sAsg, sRet, sExpr, sNil, sPar, puts, tst, eOp, aCons, aNil, xN, xC, xMv, xS, xNot, xAnd, xOr, xIf, xInt, xL, tAndM, tOrM, tNotM, tTrue, fz, fzs, noOwn, noOwns, noFz, noFzs, fIx, fCmp, fI2, fI2c, fAdd, fSub, fMul, fMod, fDiv, fPow, fNeg, fAbs, fMax, fMin, fInt, fLen, fTup, fLst, fDivmod, fInts, cMul, cDiv, cPow, gTp, gsCons, gsNil, gSb, gNm, pNm, pIx, slP, getP, setP, mSet, mAppend, mPopAt, ownL, isLst, eMu, eMuG, L2.ixN, L2.atI, pickIO, putIO, mkAr, xCall, xCallE, xCallT, bVl, bPl, bNil, kill, iSeq, iR1, iR2, iEn, iZp, sFor, fits, i62_eq, i64_eq, ltI_eq, fzs_ints, noOwns_ints, noFzs_ints, okD_ints, ints_map, fEq, fNe, okI, okL, eqD_int, eqD_ints, eqD_nil, is_count_ok, cntB]; rfl⟩
end Wk30
namespace Wk30
open PySem PySem.Spec VL
theorem isc_loop2 (many : D) (ns : List Int) : ∀ cs : List Int,
    (cs.all (fun c => decide (c ∈ ns)) = true → loopM (gNm 2) (sIf (tst (e2 (xN 2) (xN 1) fNotIn)) (sRet (xC (.bl false))) sNil) [2] (cs.map D.int) [some many, some (.lst false (ns.map D.int)), none] = .nx [some many, some (.lst false (ns.map D.int)), none]) ∧
    (cs.all (fun c => decide (c ∈ ns)) = false → ∃ s', loopM (gNm 2) (sIf (tst (e2 (xN 2) (xN 1) fNotIn)) (sRet (xC (.bl false))) sNil) [2] (cs.map D.int) [some many, some (.lst false (ns.map D.int)), none] = .rt (.bl false) s')
  | [] => ⟨fun _ => by simp [loopM], fun h => by simp at h⟩
  | c :: cs => by
    obtain ⟨h1, h2⟩ := isc_loop2 many ns cs
    by_cases hc : c ∈ ns
    · constructor
      · intro h
        have h1' := h1 (by simpa [hc] using h)
        simp [loopM, fnM, sSeq, sIf, sAsg, sRet, sExpr, sNil, sPar, puts, tst, eOp, aCons, aNil, xN, xC, xMv, xS, xNot, xAnd, xOr, xIf, xInt, xL, tAndM, tOrM, tNotM, tTrue, fz, fzs, noOwn, noOwns, noFz, noFzs, fIx, fCmp, fI2, fI2c, fAdd, fSub, fMul, fMod, fDiv, fPow, fNeg, fAbs, fMax, fMin, fInt, fLen, fTup, fLst, fDivmod, fInts, cMul, cDiv, cPow, gTp, gsCons, gsNil, gSb, gNm, pNm, pIx, slP, getP, setP, mSet, mAppend, mPopAt, ownL, isLst, eMu, eMuG, L2.ixN, L2.atI, pickIO, putIO, mkAr, xCall, xCallE, xCallT, bVl, bPl, bNil, kill, iSeq, iR1, iR2, iEn, iZp, sFor, fits, i62_eq, i64_eq, ltI_eq, fzs_ints, noOwns_ints, noFzs_ints, okD_ints, ints_map, fEq, fNe, okI, okL, eqD_int, eqD_ints, eqD_nil, fNotIn, inD_ints, hc] at h1' ⊢
        exact h1'
      · intro h
        obtain ⟨s', e⟩ := h2 (by simpa [hc] using h)
        refine ⟨s', ?_⟩
        simp [loopM, fnM, sSeq, sIf, sAsg, sRet, sExpr, sNil, sPar, puts, tst, eOp, aCons, aNil, xN, xC, xMv, xS, xNot, xAnd, xOr, xIf, xInt, xL, tAndM, tOrM, tNotM, tTrue, fz, fzs, noOwn, noOwns, noFz, noFzs, fIx, fCmp, fI2, fI2c, fAdd, fSub, fMul, fMod, fDiv, fPow, fNeg, fAbs, fMax, fMin, fInt, fLen, fTup, fLst, fDivmod, fInts, cMul, cDiv, cPow, gTp, gsCons, gsNil, gSb, gNm, pNm, pIx, slP, getP, setP, mSet, mAppend, mPopAt, ownL, isLst, eMu, eMuG, L2.ixN, L2.atI, pickIO, putIO, mkAr, xCall, xCallE, xCallT, bVl, bPl, bNil, kill, iSeq, iR1, iR2, iEn, iZp, sFor, fits, i62_eq, i64_eq, ltI_eq, fzs_ints, noOwns_ints, noFzs_ints, okD_ints, ints_map, fEq, fNe, okI, okL, eqD_int, eqD_ints, eqD_nil, fNotIn, inD_ints, hc] at e ⊢
        exact e
    · constructor
      · intro h
        simp [hc] at h
      · intro h
        exact ⟨_, by simp [loopM, fnM, sSeq, sIf, sAsg, sRet, sExpr, sNil, sPar, puts, tst, eOp, aCons, aNil, xN, xC, xMv, xS, xNot, xAnd, xOr, xIf, xInt, xL, tAndM, tOrM, tNotM, tTrue, fz, fzs, noOwn, noOwns, noFz, noFzs, fIx, fCmp, fI2, fI2c, fAdd, fSub, fMul, fMod, fDiv, fPow, fNeg, fAbs, fMax, fMin, fInt, fLen, fTup, fLst, fDivmod, fInts, cMul, cDiv, cPow, gTp, gsCons, gsNil, gSb, gNm, pNm, pIx, slP, getP, setP, mSet, mAppend, mPopAt, ownL, isLst, eMu, eMuG, L2.ixN, L2.atI, pickIO, putIO, mkAr, xCall, xCallE, xCallT, bVl, bPl, bNil, kill, iSeq, iR1, iR2, iEn, iZp, sFor, fits, i62_eq, i64_eq, ltI_eq, fzs_ints, noOwns_ints, noFzs_ints, okD_ints, ints_map, fEq, fNe, okI, okL, eqD_int, eqD_ints, eqD_nil, fNotIn, inD_ints, hc]; rfl⟩
theorem all_okE {many : Int} : ∀ {xs : List D}, xs.all (okE many) = true → ∃ ns : List Int, xs = ns.map D.int ∧ ∀ n ∈ ns, 0 ≤ n ∧ n < many
  | [], _ => ⟨[], rfl, by simp⟩
  | d :: xs, h => by
    simp only [List.all_cons, Bool.and_eq_true] at h
    obtain ⟨ns, rfl, h2⟩ := all_okE h.2
    have h1 := h.1
    cases d <;> simp [okE] at h1
    rename_i i
    exact ⟨i :: ns, rfl, fun n hn => by
      rcases List.mem_cons.mp hn with rfl | hn
      · exact h1
      · exact h2 n hn⟩
def colsB (ns : List Int) : Bool := (upto (maxI (-1 :: ns) + 1).toNat).all fun c => decide (c ∈ ns)
def isColB (many : Int) : D → Bool
  | .lst _ xs => decide ((xs.length : Int) = many) && (xs.all (okE many) && (match ints? xs with
    | some ns => colsB ns
    | none => false))
  | _ => false
/-- a thing that is told: frozen, no locked list, not too long -/
structure Th (d : D) : Prop where
  fz : fz d = d
  wl : ∀ xs, d ≠ .wl xs
  len : ∀ o xs, d = .lst o xs → xs.length ≤ 1000
theorem maxI_le {ns : List Int} {b : Int} (h : ∀ n ∈ ns, n < b) (hb : -1 ≤ b) : -1 ≤ maxI (-1 :: ns) ∧ maxI (-1 :: ns) ≤ b := by
  obtain ⟨h1, h2⟩ := maxI_spec (-1 :: ns) (by simp)
  refine ⟨h2 (-1) (by simp), ?_⟩
  rcases List.mem_cons.mp h1 with e | e
  · rw [e]; exact hb
  · exact Int.le_of_lt (h _ e)
theorem fzs_self : ∀ {xs : List D}, fzs xs = xs → ∀ d ∈ xs, VL.fz d = d
  | [], _, _, h => by cases h
  | x :: xs, h, d, hd => by
    simp [fzs] at h
    rcases List.mem_cons.mp hd with rfl | hd
    · exact h.1
    · exact fzs_self h.2 d hd
theorem is_colouring_ok (many : Int) (d : D) (T : Th d) : fr_is_colouring [.int many, d] = .ok (.bl (isColB many d)) [] := by
  have hz := T.fz
  cases d
  case wl xs => exact absurd rfl (T.wl xs)
  case lst o xs =>
    have hl := T.len o xs rfl
    simp [VL.fz] at hz
    obtain ⟨rfl, hz⟩ := hz
    by_cases h0 : (xs.length : Int) = many
    · have hzs := fzs_self hz
      obtain ⟨h1, h2⟩ := isc_loop1 many (.lst false xs) xs hzs
      by_cases ho : xs.all (okE many) = true
      · obtain ⟨ns, rfl, hb⟩ := all_okE ho
        have h1 := h1 ho
        have hln : ns.length ≤ 1000 := by simpa using hl
        have hmx := maxI_le (b := many) (fun n hn => (hb n hn).2) (by omega)
        have c1 : -4611686018427387904 ≤ maxI (-1 :: ns) + 1 ∧ maxI (-1 :: ns) + 1 < 4611686018427387904 := by simp at h0; omega
        obtain ⟨h3, h4⟩ := isc_loop2 (.int many) ns (upto (maxI (-1 :: ns) + 1).toNat)
        have hr := rngD_upto (maxI (-1 :: ns) + 1).toNat
        by_cases hc : colsB ns = true
        · have h3 := h3 hc
          simp at h0
          simp [fr_is_colouring, m_is_colouring, fnM, sSeq, sIf, sAsg, sRet, sExpr, sNil, sPar, puts, tst, eOp, aCons, aNil, xN, xC, xMv, xS, xNot, xAnd, xOr, xIf, xInt, xL, tAndM, tOrM, tNotM, tTrue, fz, fzs, noOwn, noOwns, noFz, noFzs, fIx, fCmp, fI2, fI2c, fAdd, fSub, fMul, fMod, fDiv, fPow, fNeg, fAbs, fMax, fMin, fInt, fLen, fTup, fLst, fDivmod, fInts, cMul, cDiv, cPow, gTp, gsCons, gsNil, gSb, gNm, pNm, pIx, slP, getP, setP, mSet, mAppend, mPopAt, ownL, isLst, eMu, eMuG, L2.ixN, L2.atI, pickIO, putIO, mkAr, xCall, xCallE, xCallT, bVl, bPl, bNil, kill, iSeq, iR1, iR2, iEn, iZp, sFor, fits, i62_eq, i64_eq, ltI_eq, fzs_ints, noOwns_ints, noFzs_ints, okD_ints, ints_map, fEq, fNe, okI, okL, eqD_int, eqD_ints, eqD_nil, fIsi, k_list, h0, h1, colour_many_ok ns hln, c1, hr, h3, isColB, ho, hc]
        · have hc : colsB ns = false := by simpa using hc
          obtain ⟨s', h4⟩ := h4 hc
          simp at h0
          simp [fr_is_colouring, m_is_colouring, fnM, sSeq, sIf, sAsg, sRet, sExpr, sNil, sPar, puts, tst, eOp, aCons, aNil, xN, xC, xMv, xS, xNot, xAnd, xOr, xIf, xInt, xL, tAndM, tOrM, tNotM, tTrue, fz, fzs, noOwn, noOwns, noFz, noFzs, fIx, fCmp, fI2, fI2c, fAdd, fSub, fMul, fMod, fDiv, fPow, fNeg, fAbs, fMax, fMin, fInt, fLen, fTup, fLst, fDivmod, fInts, cMul, cDiv, cPow, gTp, gsCons, gsNil, gSb, gNm, pNm, pIx, slP, getP, setP, mSet, mAppend, mPopAt, ownL, isLst, eMu, eMuG, L2.ixN, L2.atI, pickIO, putIO, mkAr, xCall, xCallE, xCallT, bVl, bPl, bNil, kill, iSeq, iR1, iR2, iEn, iZp, sFor, fits, i62_eq, i64_eq, ltI_eq, fzs_ints, noOwns_ints, noFzs_ints, okD_ints, ints_map, fEq, fNe, okI, okL, eqD_int, eqD_ints, eqD_nil, fIsi, k_list, h0, h1, colour_many_ok ns hln, c1, hr, h4, isColB, ho, hc]
      · have ho : xs.all (okE many) = false := by simpa using ho
        obtain ⟨s', h2⟩ := h2 ho
        have hno : noOwns xs = true := by
          rw [← hz]; exact fzs_noOwn xs
        simp [fr_is_colouring, m_is_colouring, fnM, sSeq, sIf, sAsg, sRet, sExpr, sNil, sPar, puts, tst, eOp, aCons, aNil, xN, xC, xMv, xS, xNot, xAnd, xOr, xIf, xInt, xL, tAndM, tOrM, tNotM, tTrue, fz, fzs, noOwn, noOwns, noFz, noFzs, fIx, fCmp, fI2, fI2c, fAdd, fSub, fMul, fMod, fDiv, fPow, fNeg, fAbs, fMax, fMin, fInt, fLen, fTup, fLst, fDivmod, fInts, cMul, cDiv, cPow, gTp, gsCons, gsNil, gSb, gNm, pNm, pIx, slP, getP, setP, mSet, mAppend, mPopAt, ownL, isLst, eMu, eMuG, L2.ixN, L2.atI, pickIO, putIO, mkAr, xCall, xCallE, xCallT, bVl, bPl, bNil, kill, iSeq, iR1, iR2, iEn, iZp, sFor, fits, i62_eq, i64_eq, ltI_eq, fzs_ints, noOwns_ints, noFzs_ints, okD_ints, ints_map, fEq, fNe, okI, okL, eqD_int, eqD_ints, eqD_nil, fIsi, k_list, h0, h2, isColB, ho, hz, hno]
    · simp [fr_is_colouring, m_is_colouring, fnM, sSeq, sIf, sAsg, sRet, sExpr, sNil, sPar, puts, tst, eOp, aCons, aNil, xN, xC, xMv, xS, xNot, xAnd, xOr, xIf, xInt, xL, tAndM, tOrM, tNotM, tTrue, fz, fzs, noOwn, noOwns, noFz, noFzs, fIx, fCmp, fI2, fI2c, fAdd, fSub, fMul, fMod, fDiv, fPow, fNeg, fAbs, fMax, fMin, fInt, fLen, fTup, fLst, fDivmod, fInts, cMul, cDiv, cPow, gTp, gsCons, gsNil, gSb, gNm, pNm, pIx, slP, getP, setP, mSet, mAppend, mPopAt, ownL, isLst, eMu, eMuG, L2.ixN, L2.atI, pickIO, putIO, mkAr, xCall, xCallE, xCallT, bVl, bPl, bNil, kill, iSeq, iR1, iR2, iEn, iZp, sFor, fits, i62_eq, i64_eq, ltI_eq, fzs_ints, noOwns_ints, noFzs_ints, okD_ints, ints_map, fEq, fNe, okI, okL, eqD_int, eqD_ints, eqD_nil, fIsi, k_list, h0, isColB, hz]
  all_goals simp [fr_is_colouring, m_is_colouring, fnM, sSeq, sIf, sAsg, sRet, sExpr, sNil, sPar, puts, tst, eOp, aCons, aNil, xN, xC, xMv, xS, xNot, xAnd, xOr, xIf, xInt, xL, tAndM, tOrM, tNotM, tTrue, fz, fzs, noOwn, noOwns, noFz, noFzs, fIx, fCmp, fI2, fI2c, fAdd, fSub, fMul, fMod, fDiv, fPow, fNeg, fAbs, fMax, fMin, fInt, fLen, fTup, fLst, fDivmod, fInts, cMul, cDiv, cPow, gTp, gsCons, gsNil, gSb, gNm, pNm, pIx, slP, getP, setP, mSet, mAppend, mPopAt, ownL, isLst, eMu, eMuG, L2.ixN, L2.atI, pickIO, putIO, mkAr, xCall, xCallE, xCallT, bVl, bPl, bNil, kill, iSeq, iR1, iR2, iEn, iZp, sFor, fits, i62_eq, i64_eq, ltI_eq, fzs_ints, noOwns_ints, noFzs_ints, okD_ints, ints_map, fEq, fNe, okI, okL, eqD_int, eqD_ints, eqD_nil, fIsi, k_list, isColB]
end Wk30
namespace Wk30
open PySem PySem.Spec VL
theorem iso_loop (sz : D) (v : D) : ∀ xs : List D, (∀ d ∈ xs, fz d = d) →
    (xs.all intB = true → loopM (gNm 2) (sIf (tOrM (tNotM (tst (e1 (xN 2) (fIsi "int")))) (tst (e1 (xN 2) (fIsi "bool")))) (sRet (xC (.bl false))) sNil) [2] xs [some sz, some v, none, none, none, none, none] = .nx [some sz, some v, none, none, none, none, none]) ∧
    (xs.all intB = false → ∃ s', loopM (gNm 2) (sIf (tOrM (tNotM (tst (e1 (xN 2) (fIsi "int")))) (tst (e1 (xN 2) (fIsi "bool")))) (sRet (xC (.bl false))) sNil) [2] xs [some sz, some v, none, none, none, none, none] = .rt (.bl false) s')
  | [], _ => ⟨fun _ => by simp [loopM], fun h => by simp at h⟩
  | d :: xs, hz => by
    obtain ⟨h1, h2⟩ := iso_loop sz v xs (fun d hd => hz d (by simp [hd]))
    have hd := hz d (by simp)
    by_cases ho : intB d = true
    · cases d <;> simp [intB] at ho
      constructor
      · intro h
        have h1' := h1 (by simpa [intB] using h)
        simp [loopM, fnM, sSeq, sIf, sAsg, sRet, sExpr, sNil, sPar, puts, tst, eOp, aCons, aNil, xN, xC, xMv, xS, xNot, xAnd, xOr, xIf, xInt, xL, tAndM, tOrM, tNotM, tTrue, fz, fzs, noOwn, noOwns, noFz, noFzs, fIx, fCmp, fI2, fI2c, fAdd, fSub, fMul, fMod, fDiv, fPow, fNeg, fAbs, fMax, fMin, fInt, fLen, fTup, fLst, fDivmod, fInts, cMul, cDiv, cPow, gTp, gsCons, gsNil, gSb, gNm, pNm, pIx, slP, getP, setP, mSet, mAppend, mPopAt, ownL, isLst, eMu, eMuG, L2.ixN, L2.atI, pickIO, putIO, mkAr, xCall, xCallE, xCallT, bVl, bPl, bNil, kill, iSeq, iR1, iR2, iEn, iZp, sFor, fits, i62_eq, i64_eq, ltI_eq, fzs_ints, noOwns_ints, noFzs_ints, okD_ints, ints_map, fEq, fNe, okI, okL, eqD_int, eqD_ints, eqD_nil, fIsi, k_int, k_bool] at h1' ⊢
        exact h1'
      · intro h
        obtain ⟨s', e⟩ := h2 (by simpa [intB] using h)
        refine ⟨s', ?_⟩
        simp [loopM, fnM, sSeq, sIf, sAsg, sRet, sExpr, sNil, sPar, puts, tst, eOp, aCons, aNil, xN, xC, xMv, xS, xNot, xAnd, xOr, xIf, xInt, xL, tAndM, tOrM, tNotM, tTrue, fz, fzs, noOwn, noOwns, noFz, noFzs, fIx, fCmp, fI2, fI2c, fAdd, fSub, fMul, fMod, fDiv, fPow, fNeg, fAbs, fMax, fMin, fInt, fLen, fTup, fLst, fDivmod, fInts, cMul, cDiv, cPow, gTp, gsCons, gsNil, gSb, gNm, pNm, pIx, slP, getP, setP, mSet, mAppend, mPopAt, ownL, isLst, eMu, eMuG, L2.ixN, L2.atI, pickIO, putIO, mkAr, xCall, xCallE, xCallT, bVl, bPl, bNil, kill, iSeq, iR1, iR2, iEn, iZp, sFor, fits, i62_eq, i64_eq, ltI_eq, fzs_ints, noOwns_ints, noFzs_ints, okD_ints, ints_map, fEq, fNe, okI, okL, eqD_int, eqD_ints, eqD_nil, fIsi, k_int, k_bool] at e ⊢
        exact e
    · constructor
      · intro h
        simp [ho] at h
      · intro hx
        clear hx
        cases d
        case int i => simp [intB] at ho
        case wl xs =>
          simp [fz] at hd
          exact ⟨_, by simp [loopM, fnM, sSeq, sIf, sAsg, sRet, sExpr, sNil, sPar, puts, tst, eOp, aCons, aNil, xN, xC, xMv, xS, xNot, xAnd, xOr, xIf, xInt, xL, tAndM, tOrM, tNotM, tTrue, fz, fzs, noOwn, noOwns, noFz, noFzs, fIx, fCmp, fI2, fI2c, fAdd, fSub, fMul, fMod, fDiv, fPow, fNeg, fAbs, fMax, fMin, fInt, fLen, fTup, fLst, fDivmod, fInts, cMul, cDiv, cPow, gTp, gsCons, gsNil, gSb, gNm, pNm, pIx, slP, getP, setP, mSet, mAppend, mPopAt, ownL, isLst, eMu, eMuG, L2.ixN, L2.atI, pickIO, putIO, mkAr, xCall, xCallE, xCallT, bVl, bPl, bNil, kill, iSeq, iR1, iR2, iEn, iZp, sFor, fits, i62_eq, i64_eq, ltI_eq, fzs_ints, noOwns_ints, noFzs_ints, okD_ints, ints_map, fEq, fNe, okI, okL, eqD_int, eqD_ints, eqD_nil, fIsi, k_int, k_bool, hd]; rfl⟩
        case lst o xs =>
          simp [fz] at hd
          exact ⟨_, by simp [loopM, fnM, sSeq, sIf, sAsg, sRet, sExpr, sNil, sPar, puts, tst, eOp, aCons, aNil, xN, xC, xMv, xS, xNot, xAnd, xOr, xIf, xInt, xL, tAndM, tOrM, tNotM, tTrue, fz, fzs, noOwn, noOwns, noFz, noFzs, fIx, fCmp, fI2, fI2c, fAdd, fSub, fMul, fMod, fDiv, fPow, fNeg, fAbs, fMax, fMin, fInt, fLen, fTup, fLst, fDivmod, fInts, cMul, cDiv, cPow, gTp, gsCons, gsNil, gSb, gNm, pNm, pIx, slP, getP, setP, mSet, mAppend, mPopAt, ownL, isLst, eMu, eMuG, L2.ixN, L2.atI, pickIO, putIO, mkAr, xCall, xCallE, xCallT, bVl, bPl, bNil, kill, iSeq, iR1, iR2, iEn, iZp, sFor, fits, i62_eq, i64_eq, ltI_eq, fzs_ints, noOwns_ints, noFzs_ints, okD_ints, ints_map, fEq, fNe, okI, okL, eqD_int, eqD_ints, eqD_nil, fIsi, k_int, k_bool, hd]; rfl⟩
        case tup xs =>
          simp [fz] at hd
          exact ⟨_, by simp [loopM, fnM, sSeq, sIf, sAsg, sRet, sExpr, sNil, sPar, puts, tst, eOp, aCons, aNil, xN, xC, xMv, xS, xNot, xAnd, xOr, xIf, xInt, xL, tAndM, tOrM, tNotM, tTrue, fz, fzs, noOwn, noOwns, noFz, noFzs, fIx, fCmp, fI2, fI2c, fAdd, fSub, fMul, fMod, fDiv, fPow, fNeg, fAbs, fMax, fMin, fInt, fLen, fTup, fLst, fDivmod, fInts, cMul, cDiv, cPow, gTp, gsCons, gsNil, gSb, gNm, pNm, pIx, slP, getP, setP, mSet, mAppend, mPopAt, ownL, isLst, eMu, eMuG, L2.ixN, L2.atI, pickIO, putIO, mkAr, xCall, xCallE, xCallT, bVl, bPl, bNil, kill, iSeq, iR1, iR2, iEn, iZp, sFor, fits, i62_eq, i64_eq, ltI_eq, fzs_ints, noOwns_ints, noFzs_ints, okD_ints, ints_map, fEq, fNe, okI, okL, eqD_int, eqD_ints, eqD_nil, fIsi, k_int, k_bool, hd]; rfl⟩
        case dK o ks xs =>
          simp [fz] at hd
          exact ⟨_, by simp [loopM, fnM, sSeq, sIf, sAsg, sRet, sExpr, sNil, sPar, puts, tst, eOp, aCons, aNil, xN, xC, xMv, xS, xNot, xAnd, xOr, xIf, xInt, xL, tAndM, tOrM, tNotM, tTrue, fz, fzs, noOwn, noOwns, noFz, noFzs, fIx, fCmp, fI2, fI2c, fAdd, fSub, fMul, fMod, fDiv, fPow, fNeg, fAbs, fMax, fMin, fInt, fLen, fTup, fLst, fDivmod, fInts, cMul, cDiv, cPow, gTp, gsCons, gsNil, gSb, gNm, pNm, pIx, slP, getP, setP, mSet, mAppend, mPopAt, ownL, isLst, eMu, eMuG, L2.ixN, L2.atI, pickIO, putIO, mkAr, xCall, xCallE, xCallT, bVl, bPl, bNil, kill, iSeq, iR1, iR2, iEn, iZp, sFor, fits, i62_eq, i64_eq, ltI_eq, fzs_ints, noOwns_ints, noFzs_ints, okD_ints, ints_map, fEq, fNe, okI, okL, eqD_int, eqD_ints, eqD_nil, fIsi, k_int, k_bool, hd]; rfl⟩
        case dT o ks xs =>
          simp [fz] at hd
          exact ⟨_, by simp [loopM, fnM, sSeq, sIf, sAsg, sRet, sExpr, sNil, sPar, puts, tst, eOp, aCons, aNil, xN, xC, xMv, xS, xNot, xAnd, xOr, xIf, xInt, xL, tAndM, tOrM, tNotM, tTrue, fz, fzs, noOwn, noOwns, noFz, noFzs, fIx, fCmp, fI2, fI2c, fAdd, fSub, fMul, fMod, fDiv, fPow, fNeg, fAbs, fMax, fMin, fInt, fLen, fTup, fLst, fDivmod, fInts, cMul, cDiv, cPow, gTp, gsCons, gsNil, gSb, gNm, pNm, pIx, slP, getP, setP, mSet, mAppend, mPopAt, ownL, isLst, eMu, eMuG, L2.ixN, L2.atI, pickIO, putIO, mkAr, xCall, xCallE, xCallT, bVl, bPl, bNil, kill, iSeq, iR1, iR2, iEn, iZp, sFor, fits, i62_eq, i64_eq, ltI_eq, fzs_ints, noOwns_ints, noFzs_ints, okD_ints, ints_map, fEq, fNe, okI, okL, eqD_int, eqD_ints, eqD_nil, fIsi, k_int, k_bool, hd]; rfl⟩
        all_goals exact ⟨_, by simp [loopM, fnM, sSeq, sIf, sAsg, sRet, sExpr, sNil, sPar, puts, tst, eOp, aCons, aNil, xN, xC, xMv, xS, xNot, xAnd, xOr, xIf, xInt, xL, tAndM, tOrM, tNotM, tTrue, fz, fzs, noOwn, noOwns, noFz, noFzs, fIx, fCmp, fI2, fI2c, fAdd, fSub, fMul, fMod, fDiv, fPow, fNeg, fAbs, fMax, fMin, fInt, fLen, fTup, fLst, fDivmod, fInts, cMul, cDiv, cPow, gTp, gsCons, gsNil, gSb, gNm, pNm, pIx, slP, getP, setP, mSet, mAppend, mPopAt, ownL, isLst, eMu, eMuG, L2.ixN, L2.atI, pickIO, putIO, mkAr, xCall, xCallE, xCallT, bVl, bPl, bNil, kill, iSeq, iR1, iR2, iEn, iZp, sFor, fits, i62_eq, i64_eq, ltI_eq, fzs_ints, noOwns_ints, noFzs_ints, okD_ints, ints_map, fEq, fNe, okI, okL, eqD_int, eqD_ints, eqD_nil, fIsi, k_int, k_bool]; rfl⟩
end Wk30
namespace Wk30
open PySem PySem.Spec VL
theorem all_intB : ∀ {xs : List D}, xs.all intB = true → ∃ ns : List Int, xs = ns.map D.int
  | [], _ => ⟨[], rfl⟩
  | d :: xs, h => by
    simp only [List.all_cons, Bool.and_eq_true] at h
    obtain ⟨ns, rfl⟩ := all_intB h.2
    have h1 := h.1
    cases d <;> simp [intB] at h1
    rename_i i
    exact ⟨i :: ns, rfl⟩
def steps (s : List Int) : List Int := (upto (s.length - 1)).map fun i => s.getD (i + 1).toNat 0 - s.getD i.toNat 0
def evenB (s : List Int) : Bool := (decide (s.take 1 = []) || decide (s.take 1 = [0])) && decide (((steps s).filter fun x => decide (1 < x)).length = 0)
def isOneB (many : Int) : D → Bool
  | .lst _ xs => decide ((xs.length : Int) = many) && (xs.all intB && (match ints? xs with
    | some ns => evenB (sortI ns)
    | none => false))
  | _ => false
theorem eqD_nil' (o o' : Bool) (a : List Int) : eqD (.lst o []) (.lst o' (a.map D.int)) = decide ([] = a) := eqD_ints o o' [] a
theorem eqD_one (o o' : Bool) (x : Int) (a : List Int) : eqD (.lst o [.int x]) (.lst o' (a.map D.int)) = decide ([x] = a) := eqD_ints o o' [x] a
theorem cut1 (ns : List Int) : cutD (ns.map D.int) none (some 1) = (ns.take 1).map D.int := by
  unfold cutD
  cases ns with
  | nil => rfl
  | cons n ns => simp [HT.sIx]
theorem one_steps (sz v : D) (s : List Int) (hl : s.length ≤ 1000) (e : Bool) : lcM (gNm 5) tTrue (e2 (e2 (xN 3) (e2 (xN 5) (xC (.int 1)) fAdd) fIx) (e2 (xN 3) (xN 5) fIx) fSub) [5] ((upto (s.length - 1)).map D.int) [] [some sz, some v, none, some (.lst true (s.map D.int)), none, none, none] e =
    .ok ((steps s).map D.int) [some sz, some v, none, some (.lst true (s.map D.int)), none, none, none] e := by
  refine lcM_ints (fun i => s.getD (i + 1).toNat 0 - s.getD i.toNat 0) rfl (fun k hk => ?_) (by rw [upto_length]; omega)
  have h := mem_upto.mp hk
  have h1 : (k + 1).toNat < s.length := by omega
  have h2 : k.toNat < s.length := by omega
  have h3 : 0 ≤ k + 1 := by omega
  have h4 : k + 1 < s.length := by omega
  have h5 : k < s.length := by omega
  refine ⟨[some sz, some v, none, some (.lst true (s.map D.int)), none, some (.int k), none], [some sz, some v, none, some (.lst true (s.map D.int)), none, some (.int k), none], true, rfl, ?_, rfl⟩
  simp [fnM, sSeq, sIf, sAsg, sRet, sExpr, sNil, sPar, puts, tst, eOp, aCons, aNil, xN, xC, xMv, xS, xNot, xAnd, xOr, xIf, xInt, xL, tAndM, tOrM, tNotM, tTrue, fz, fzs, noOwn, noOwns, noFz, noFzs, fIx, fCmp, fI2, fI2c, fAdd, fSub, fMul, fMod, fDiv, fPow, fNeg, fAbs, fMax, fMin, fInt, fLen, fTup, fLst, fDivmod, fInts, cMul, cDiv, cPow, gTp, gsCons, gsNil, gSb, gNm, pNm, pIx, slP, getP, setP, mSet, mAppend, mPopAt, ownL, isLst, eMu, eMuG, L2.ixN, L2.atI, pickIO, putIO, mkAr, xCall, xCallE, xCallT, bVl, bPl, bNil, kill, iSeq, iR1, iR2, iEn, iZp, sFor, fits, i62_eq, i64_eq, ltI_eq, fzs_ints, noOwns_ints, noFzs_ints, okD_ints, ints_map, fEq, fNe, okI, okL, eqD_int, eqD_ints, eqD_nil, Option.or, h.1, h1, h2, h3, h4, h5, List.getD_eq_getElem?_getD]
theorem one_filt (sz v r : D) (ss : List Int) (hl : ss.length ≤ 1000) (e : Bool) : lcM (gNm 6) (tst (e2 (xN 6) (xC (.int 1)) (fCmp fun i j => decide (j < i)))) (xN 6) [6] (ss.map D.int) [] [some sz, some v, none, some r, some (.lst false (ss.map D.int)), none, none] e =
    .ok ((ss.filter fun x => decide (1 < x)).map D.int) [some sz, some v, none, some r, some (.lst false (ss.map D.int)), none, none] e := by
  have := lcM_filt (g := gNm 6) (mt := tst (e2 (xN 6) (xC (.int 1)) (fCmp fun i j => decide (j < i)))) (me := xN 6) (own := [6]) (s := [some sz, some v, none, some r, some (.lst false (ss.map D.int)), none, none]) (f := fun d => d) (p := fun d => match d with
    | .int x => decide (1 < x)
    | _ => false) (items := ss.map D.int) (acc := []) (e := e) (fun d hd => by
      obtain ⟨k, hk, rfl⟩ := List.mem_map.mp hd
      refine ⟨[some sz, some v, none, some r, some (.lst false (ss.map D.int)), none, some (.int k)], [some sz, some v, none, some r, some (.lst false (ss.map D.int)), none, some (.int k)], [some sz, some v, none, some r, some (.lst false (ss.map D.int)), none, some (.int k)], true, rfl, ?_, rfl, fun _ => ⟨rfl, rfl, rfl⟩⟩
      simp [fnM, sSeq, sIf, sAsg, sRet, sExpr, sNil, sPar, puts, tst, eOp, aCons, aNil, xN, xC, xMv, xS, xNot, xAnd, xOr, xIf, xInt, xL, tAndM, tOrM, tNotM, tTrue, fz, fzs, noOwn, noOwns, noFz, noFzs, fIx, fCmp, fI2, fI2c, fAdd, fSub, fMul, fMod, fDiv, fPow, fNeg, fAbs, fMax, fMin, fInt, fLen, fTup, fLst, fDivmod, fInts, cMul, cDiv, cPow, gTp, gsCons, gsNil, gSb, gNm, pNm, pIx, slP, getP, setP, mSet, mAppend, mPopAt, ownL, isLst, eMu, eMuG, L2.ixN, L2.atI, pickIO, putIO, mkAr, xCall, xCallE, xCallT, bVl, bPl, bNil, kill, iSeq, iR1, iR2, iEn, iZp, sFor, fits, i62_eq, i64_eq, ltI_eq, fzs_ints, noOwns_ints, noFzs_ints, okD_ints, ints_map, fEq, fNe, okI, okL, eqD_int, eqD_ints, eqD_nil]) (by simp; omega)
  rw [this, List.filter_map]
  simp [Function.comp_def]
end Wk30
namespace Wk30
open PySem PySem.Spec VL
theorem steps_len (s : List Int) : (steps s).length = s.length - 1 := by simp [steps, upto_length]
theorem is_one_ok (many : Int) (d : D) (T : Th d) : fr__law_is_one [.int many, d] = .ok (.bl (isOneB many d)) [] := by
  have hz := T.fz
  cases d
  case wl xs => exact absurd rfl (T.wl xs)
  case lst o xs =>
    have hl := T.len o xs rfl
    simp [VL.fz] at hz
    obtain ⟨rfl, hz⟩ := hz
    by_cases h0 : (xs.length : Int) = many
    · obtain ⟨h1, h2⟩ := iso_loop (.int many) (.lst false xs) xs (fzs_self hz)
      have hno : noOwns xs = true := by
        rw [← hz]; exact fzs_noOwn xs
      by_cases ho : xs.all intB = true
      · obtain ⟨ns, rfl⟩ := all_intB ho
        have h1 := h1 ho
        have hln : ns.length ≤ 1000 := by simpa using hl
        obtain ⟨s, hs⟩ : ∃ s, s = sortI ns := ⟨_, rfl⟩
        have hsl : s.length = ns.length := by rw [hs]; exact (sortI_perm ns).length_eq
        have h3 := one_steps (.int many) (.lst false (ns.map D.int)) s (by omega) false
        have h4 := one_filt (.int many) (.lst false (ns.map D.int)) (.lst true (s.map D.int)) (steps s) (by rw [steps_len]; omega) false
        obtain ⟨w, hw⟩ : ∃ w, w = (steps s).filter fun x => decide (1 < x) := ⟨_, rfl⟩
        obtain ⟨u, hu⟩ : ∃ u, u = s.take 1 := ⟨_, rfl⟩
        have hev : evenB s = ((decide (u = []) || decide (u = [0])) && decide (w.length = 0)) := by rw [hw, hu]; rfl
        have hcut : cutD (s.map D.int) none (some 1) = u.map D.int := by rw [cut1, hu]
        rw [← hw] at h4
        generalize steps s = ss at h3 h4
        have hok : (u.map D.int).all (okD 59) = true := okD_ints 59 u
        have c1 : -4611686018427387904 ≤ (s.length : Int) - 1 ∧ (s.length : Int) - 1 < 4611686018427387904 := by omega
        have c2 : ((s.length : Int) - 1).toNat = s.length - 1 := by omega
        have hf : ns.length ≤ 16777216 := by omega
        have hr := rngD_upto (s.length - 1)
        have ho' : (ns.map D.int).all intB = true := ho
        have hk2 : okD 60 (.tup [.lst true [], .lst true [.int 0]]) = true := rfl
        have hso : isOneB many (.lst false (ns.map D.int)) = ((decide (u = []) || decide (u = [0])) && decide (w.length = 0)) := by
          rw [← hev]
          simp at h0
          simp [isOneB, h0, ho', ints_map, ← hs]
        rw [hso]
        simp at h0
        by_cases q1 : u = []
        · subst q1
          by_cases q2 : w.length = 0
          · simp [fr__law_is_one, m__law_is_one, fnM, sSeq, sIf, sAsg, sRet, sExpr, sNil, sPar, puts, tst, eOp, aCons, aNil, xN, xC, xMv, xS, xNot, xAnd, xOr, xIf, xInt, xL, tAndM, tOrM, tNotM, tTrue, fz, fzs, noOwn, noOwns, noFz, noFzs, fIx, fCmp, fI2, fI2c, fAdd, fSub, fMul, fMod, fDiv, fPow, fNeg, fAbs, fMax, fMin, fInt, fLen, fTup, fLst, fDivmod, fInts, cMul, cDiv, cPow, gTp, gsCons, gsNil, gSb, gNm, pNm, pIx, slP, getP, setP, mSet, mAppend, mPopAt, ownL, isLst, eMu, eMuG, L2.ixN, L2.atI, pickIO, putIO, mkAr, xCall, xCallE, xCallT, bVl, bPl, bNil, kill, iSeq, iR1, iR2, iEn, iZp, sFor, fits, i62_eq, i64_eq, ltI_eq, fzs_ints, noOwns_ints, noFzs_ints, okD_ints, ints_map, fEq, fNe, okI, okL, eqD_int, eqD_ints, eqD_nil, fIsi, k_list, h0, h1, gSort, ← hs, hf, c1, c2, hr, xLc, h3, h4, fSl, oI, hcut, fIn, inD, eqD_nil', eqD_one, hk2, q2, okD, show eqD (.lst true []) (.lst true []) = true from rfl]
          · simp [fr__law_is_one, m__law_is_one, fnM, sSeq, sIf, sAsg, sRet, sExpr, sNil, sPar, puts, tst, eOp, aCons, aNil, xN, xC, xMv, xS, xNot, xAnd, xOr, xIf, xInt, xL, tAndM, tOrM, tNotM, tTrue, fz, fzs, noOwn, noOwns, noFz, noFzs, fIx, fCmp, fI2, fI2c, fAdd, fSub, fMul, fMod, fDiv, fPow, fNeg, fAbs, fMax, fMin, fInt, fLen, fTup, fLst, fDivmod, fInts, cMul, cDiv, cPow, gTp, gsCons, gsNil, gSb, gNm, pNm, pIx, slP, getP, setP, mSet, mAppend, mPopAt, ownL, isLst, eMu, eMuG, L2.ixN, L2.atI, pickIO, putIO, mkAr, xCall, xCallE, xCallT, bVl, bPl, bNil, kill, iSeq, iR1, iR2, iEn, iZp, sFor, fits, i62_eq, i64_eq, ltI_eq, fzs_ints, noOwns_ints, noFzs_ints, okD_ints, ints_map, fEq, fNe, okI, okL, eqD_int, eqD_ints, eqD_nil, fIsi, k_list, h0, h1, gSort, ← hs, hf, c1, c2, hr, xLc, h3, h4, fSl, oI, hcut, fIn, inD, eqD_nil', eqD_one, hk2, q2, okD, show eqD (.lst true []) (.lst true []) = true from rfl]
        · by_cases q3 : u = [0]
          · subst q3
            by_cases q2 : w.length = 0
            · simp [fr__law_is_one, m__law_is_one, fnM, sSeq, sIf, sAsg, sRet, sExpr, sNil, sPar, puts, tst, eOp, aCons, aNil, xN, xC, xMv, xS, xNot, xAnd, xOr, xIf, xInt, xL, tAndM, tOrM, tNotM, tTrue, fz, fzs, noOwn, noOwns, noFz, noFzs, fIx, fCmp, fI2, fI2c, fAdd, fSub, fMul, fMod, fDiv, fPow, fNeg, fAbs, fMax, fMin, fInt, fLen, fTup, fLst, fDivmod, fInts, cMul, cDiv, cPow, gTp, gsCons, gsNil, gSb, gNm, pNm, pIx, slP, getP, setP, mSet, mAppend, mPopAt, ownL, isLst, eMu, eMuG, L2.ixN, L2.atI, pickIO, putIO, mkAr, xCall, xCallE, xCallT, bVl, bPl, bNil, kill, iSeq, iR1, iR2, iEn, iZp, sFor, fits, i62_eq, i64_eq, ltI_eq, fzs_ints, noOwns_ints, noFzs_ints, okD_ints, ints_map, fEq, fNe, okI, okL, eqD_int, eqD_ints, eqD_nil, fIsi, k_list, h0, h1, gSort, ← hs, hf, c1, c2, hr, xLc, h3, h4, fSl, oI, hcut, fIn, inD, eqD_nil', eqD_one, hk2, q2, okD, eqD, py, pys, PyData.eqv, PyData.eqvAll]
            · simp [fr__law_is_one, m__law_is_one, fnM, sSeq, sIf, sAsg, sRet, sExpr, sNil, sPar, puts, tst, eOp, aCons, aNil, xN, xC, xMv, xS, xNot, xAnd, xOr, xIf, xInt, xL, tAndM, tOrM, tNotM, tTrue, fz, fzs, noOwn, noOwns, noFz, noFzs, fIx, fCmp, fI2, fI2c, fAdd, fSub, fMul, fMod, fDiv, fPow, fNeg, fAbs, fMax, fMin, fInt, fLen, fTup, fLst, fDivmod, fInts, cMul, cDiv, cPow, gTp, gsCons, gsNil, gSb, gNm, pNm, pIx, slP, getP, setP, mSet, mAppend, mPopAt, ownL, isLst, eMu, eMuG, L2.ixN, L2.atI, pickIO, putIO, mkAr, xCall, xCallE, xCallT, bVl, bPl, bNil, kill, iSeq, iR1, iR2, iEn, iZp, sFor, fits, i62_eq, i64_eq, ltI_eq, fzs_ints, noOwns_ints, noFzs_ints, okD_ints, ints_map, fEq, fNe, okI, okL, eqD_int, eqD_ints, eqD_nil, fIsi, k_list, h0, h1, gSort, ← hs, hf, c1, c2, hr, xLc, h3, h4, fSl, oI, hcut, fIn, inD, eqD_nil', eqD_one, hk2, q2, okD, eqD, py, pys, PyData.eqv, PyData.eqvAll]
          · have q4 : ¬ [0] = u := fun z => q3 z.symm
            have q5 : ¬ [] = u := fun z => q1 z.symm
            simp [fr__law_is_one, m__law_is_one, fnM, sSeq, sIf, sAsg, sRet, sExpr, sNil, sPar, puts, tst, eOp, aCons, aNil, xN, xC, xMv, xS, xNot, xAnd, xOr, xIf, xInt, xL, tAndM, tOrM, tNotM, tTrue, fz, fzs, noOwn, noOwns, noFz, noFzs, fIx, fCmp, fI2, fI2c, fAdd, fSub, fMul, fMod, fDiv, fPow, fNeg, fAbs, fMax, fMin, fInt, fLen, fTup, fLst, fDivmod, fInts, cMul, cDiv, cPow, gTp, gsCons, gsNil, gSb, gNm, pNm, pIx, slP, getP, setP, mSet, mAppend, mPopAt, ownL, isLst, eMu, eMuG, L2.ixN, L2.atI, pickIO, putIO, mkAr, xCall, xCallE, xCallT, bVl, bPl, bNil, kill, iSeq, iR1, iR2, iEn, iZp, sFor, fits, i62_eq, i64_eq, ltI_eq, fzs_ints, noOwns_ints, noFzs_ints, okD_ints, ints_map, fEq, fNe, okI, okL, eqD_int, eqD_ints, eqD_nil, fIsi, k_list, h0, h1, gSort, ← hs, hf, c1, c2, hr, xLc, h3, fSl, oI, hcut, fIn, inD, eqD_nil', eqD_one, hk2, q1, q3, q4, q5]
      · have ho : xs.all intB = false := by simpa using ho
        obtain ⟨s', h2⟩ := h2 ho
        simp [fr__law_is_one, m__law_is_one, fnM, sSeq, sIf, sAsg, sRet, sExpr, sNil, sPar, puts, tst, eOp, aCons, aNil, xN, xC, xMv, xS, xNot, xAnd, xOr, xIf, xInt, xL, tAndM, tOrM, tNotM, tTrue, fz, fzs, noOwn, noOwns, noFz, noFzs, fIx, fCmp, fI2, fI2c, fAdd, fSub, fMul, fMod, fDiv, fPow, fNeg, fAbs, fMax, fMin, fInt, fLen, fTup, fLst, fDivmod, fInts, cMul, cDiv, cPow, gTp, gsCons, gsNil, gSb, gNm, pNm, pIx, slP, getP, setP, mSet, mAppend, mPopAt, ownL, isLst, eMu, eMuG, L2.ixN, L2.atI, pickIO, putIO, mkAr, xCall, xCallE, xCallT, bVl, bPl, bNil, kill, iSeq, iR1, iR2, iEn, iZp, sFor, fits, i62_eq, i64_eq, ltI_eq, fzs_ints, noOwns_ints, noFzs_ints, okD_ints, ints_map, fEq, fNe, okI, okL, eqD_int, eqD_ints, eqD_nil, fIsi, k_list, h0, h2, isOneB, ho, hz, hno]
    · simp [fr__law_is_one, m__law_is_one, fnM, sSeq, sIf, sAsg, sRet, sExpr, sNil, sPar, puts, tst, eOp, aCons, aNil, xN, xC, xMv, xS, xNot, xAnd, xOr, xIf, xInt, xL, tAndM, tOrM, tNotM, tTrue, fz, fzs, noOwn, noOwns, noFz, noFzs, fIx, fCmp, fI2, fI2c, fAdd, fSub, fMul, fMod, fDiv, fPow, fNeg, fAbs, fMax, fMin, fInt, fLen, fTup, fLst, fDivmod, fInts, cMul, cDiv, cPow, gTp, gsCons, gsNil, gSb, gNm, pNm, pIx, slP, getP, setP, mSet, mAppend, mPopAt, ownL, isLst, eMu, eMuG, L2.ixN, L2.atI, pickIO, putIO, mkAr, xCall, xCallE, xCallT, bVl, bPl, bNil, kill, iSeq, iR1, iR2, iEn, iZp, sFor, fits, i62_eq, i64_eq, ltI_eq, fzs_ints, noOwns_ints, noFzs_ints, okD_ints, ints_map, fEq, fNe, okI, okL, eqD_int, eqD_ints, eqD_nil, fIsi, k_list, h0, isOneB, hz]
  all_goals simp [fr__law_is_one, m__law_is_one, fnM, sSeq, sIf, sAsg, sRet, sExpr, sNil, sPar, puts, tst, eOp, aCons, aNil, xN, xC, xMv, xS, xNot, xAnd, xOr, xIf, xInt, xL, tAndM, tOrM, tNotM, tTrue, fz, fzs, noOwn, noOwns, noFz, noFzs, fIx, fCmp, fI2, fI2c, fAdd, fSub, fMul, fMod, fDiv, fPow, fNeg, fAbs, fMax, fMin, fInt, fLen, fTup, fLst, fDivmod, fInts, cMul, cDiv, cPow, gTp, gsCons, gsNil, gSb, gNm, pNm, pIx, slP, getP, setP, mSet, mAppend, mPopAt, ownL, isLst, eMu, eMuG, L2.ixN, L2.atI, pickIO, putIO, mkAr, xCall, xCallE, xCallT, bVl, bPl, bNil, kill, iSeq, iR1, iR2, iEn, iZp, sFor, fits, i62_eq, i64_eq, ltI_eq, fzs_ints, noOwns_ints, noFzs_ints, okD_ints, ints_map, fEq, fNe, okI, okL, eqD_int, eqD_ints, eqD_nil, fIsi, k_list, isOneB]
end Wk30
namespace Wk30
open PySem PySem.Spec VL
theorem getD_lt {s : List Int} {i : Nat} (h : i < s.length) : s.getD i 0 = s[i] := by
  rw [List.getD_eq_getElem?_getD, List.getElem?_eq_getElem h]
  rfl
def Even (s : List Int) : Prop := (∀ h : 0 < s.length, s[0] = 0) ∧ ∀ i (h : i + 1 < s.length), s[i + 1] - s[i] ≤ 1
theorem evenB_iff (s : List Int) : evenB s = true ↔ Even s := by
  unfold evenB Even
  rw [Bool.and_eq_true, Bool.or_eq_true, decide_eq_true_iff, decide_eq_true_iff, decide_eq_true_iff, List.length_eq_zero_iff, List.filter_eq_nil_iff]
  constructor
  · rintro ⟨h1, h2⟩
    refine ⟨fun h => ?_, fun i h => ?_⟩
    · cases s with
      | nil => simp at h
      | cons x s => simpa using h1
    · have := h2 (s[i + 1] - s[i]) (by
        unfold steps
        refine List.mem_map.mpr ⟨(i : Int), mem_upto.mpr ⟨by omega, by omega⟩, ?_⟩
        have e1 : ((i : Int) + 1).toNat = i + 1 := by omega
        have e2 : (i : Int).toNat = i := by omega
        rw [e1, e2, getD_lt h, getD_lt (by omega)])
      simp only [decide_eq_true_iff] at this
      omega
  · rintro ⟨h1, h2⟩
    refine ⟨?_, fun x hx => ?_⟩
    · cases s with
      | nil => simp
      | cons x s => right; have := h1 (by simp); simpa using this
    · unfold steps at hx
      obtain ⟨i, hi, rfl⟩ := List.mem_map.mp hx
      have hi := mem_upto.mp hi
      have q1 : i.toNat + 1 < s.length := by omega
      have e1 : (i + 1).toNat = i.toNat + 1 := by omega
      have := h2 i.toNat q1
      rw [e1, getD_lt q1, getD_lt (by omega)]
      simp only [decide_eq_true_iff]
      omega
theorem even_fill {s : List Int} (hs : s.Pairwise (· ≤ ·)) (h : Even s) : ∀ (i : Nat) (hi : i < s.length), 0 ≤ s[i] ∧ s[i] ≤ i ∧ ∀ c : Int, 0 ≤ c → c ≤ s[i] → c ∈ s
  | 0, hi => by
    have := h.1 hi
    refine ⟨by omega, by omega, fun c h0 h1 => ?_⟩
    have : c = s[0] := by omega
    rw [this]; exact List.getElem_mem hi
  | i + 1, hi => by
    obtain ⟨h1, h2, h3⟩ := even_fill hs h i (by omega)
    have h4 := h.2 i hi
    have h5 := (List.pairwise_iff_getElem.mp hs) i (i + 1) (by omega) hi (by omega)
    refine ⟨by omega, by omega, fun c h0 hc => ?_⟩
    by_cases q : c ≤ s[i]
    · exact h3 c h0 q
    · have : c = s[i + 1] := by omega
      rw [this]; exact List.getElem_mem hi
theorem fill_even {s : List Int} (hs : s.Pairwise (· ≤ ·)) (h0 : ∀ n ∈ s, 0 ≤ n) (hf : ∀ m ∈ s, ∀ c : Int, 0 ≤ c → c ≤ m → c ∈ s) : Even s := by
  have pw := List.pairwise_iff_getElem.mp hs
  refine ⟨fun h => ?_, fun i h => ?_⟩
  · have hm : s[0] ∈ s := List.getElem_mem h
    have h1 := h0 _ hm
    obtain ⟨j, hj, e⟩ := List.mem_iff_getElem.mp (hf _ hm 0 (by omega) h1)
    by_cases q : j = 0
    · subst q; exact e
    · have := pw 0 j h hj (by omega)
      omega
  · refine Classical.byContradiction fun z => ?_
    have hm : s[i + 1] ∈ s := List.getElem_mem h
    have hm0 : s[i] ∈ s := List.getElem_mem (by omega)
    have h1 := h0 _ hm0
    obtain ⟨j, hj, e⟩ := List.mem_iff_getElem.mp (hf _ hm (s[i] + 1) (by omega) (by omega))
    rcases Nat.lt_trichotomy j i with q | q | q
    · have := pw j i hj (by omega) q; omega
    · subst q; omega
    · by_cases q2 : j = i + 1
      · subst q2; omega
      · have := pw (i + 1) j h hj (by omega); omega
theorem colsB_iff (ns : List Int) (h0 : ∀ n ∈ ns, 0 ≤ n) : colsB ns = true ↔ ∀ m ∈ ns, ∀ c : Int, 0 ≤ c → c ≤ m → c ∈ ns := by
  obtain ⟨g1, g2⟩ := maxI_spec (-1 :: ns) (by simp)
  unfold colsB
  rw [List.all_eq_true]
  constructor
  · intro h m hm c hc hcm
    have := g2 m (by simp [hm])
    have := h c (mem_upto.mpr ⟨hc, by omega⟩)
    simpa using this
  · intro h c hc
    have hc := mem_upto.mp hc
    rcases List.mem_cons.mp g1 with e | e
    · omega
    · simpa using h _ e c hc.1 (by omega)
theorem col_one (many : Int) (d : D) : isColB many d = isOneB many d := by
  cases d
  case lst o xs =>
    by_cases hl : (xs.length : Int) = many
    · by_cases hi : xs.all intB = true
      · obtain ⟨ns, rfl⟩ := all_intB hi
        have hp := sortI_perm ns
        have hs := sortI_sorted ns
        have hlen : (ns.length : Int) = many := by simpa using hl
        have hsl := hp.length_eq
        by_cases ho : (ns.map D.int).all (okE many) = true
        · have hb : ∀ n ∈ ns, 0 ≤ n ∧ n < many := fun n hn => by
            have := List.all_eq_true.mp ho (.int n) (List.mem_map.mpr ⟨n, hn, rfl⟩)
            simpa [okE] using this
          have key : colsB ns = evenB (sortI ns) := by
            rw [Bool.eq_iff_iff, evenB_iff, colsB_iff ns fun n hn => (hb n hn).1]
            constructor
            · intro h
              exact fill_even hs (fun n hn => (hb n (hp.mem_iff.mp hn)).1) fun m hm c h1 h2 => hp.mem_iff.mpr (h m (hp.mem_iff.mp hm) c h1 h2)
            · intro h m hm c h1 h2
              obtain ⟨j, hj, e⟩ := List.mem_iff_getElem.mp (hp.mem_iff.mpr hm)
              exact hp.mem_iff.mp ((even_fill hs h j hj).2.2 c h1 (by omega))
          simp only [isColB, isOneB, hl, ho, hi, ints_map, key]
        · have hno : evenB (sortI ns) = false := by
            refine Bool.eq_false_iff.mpr fun h => ho ?_
            have h := (evenB_iff _).mp h
            refine List.all_eq_true.mpr fun x hx => ?_
            obtain ⟨n, hn, rfl⟩ := List.mem_map.mp hx
            obtain ⟨j, hj, e⟩ := List.mem_iff_getElem.mp (hp.mem_iff.mpr hn)
            have := even_fill hs h j hj
            simp only [okE, Bool.and_eq_true, decide_eq_true_iff]
            omega
          have ho : (ns.map D.int).all (okE many) = false := by simpa using ho
          simp only [isColB, isOneB, ho, hi, ints_map, hno, Bool.false_and, Bool.and_false, Bool.true_and]
      · have ho : xs.all (okE many) = false := by
          refine Bool.eq_false_iff.mpr fun h => hi ?_
          obtain ⟨ns, rfl, _⟩ := all_okE h
          exact List.all_eq_true.mpr fun x hx => by
            obtain ⟨n, _, rfl⟩ := List.mem_map.mp hx
            rfl
        have hi : xs.all intB = false := by simpa using hi
        simp only [isColB, isOneB, ho, hi, Bool.false_and, Bool.and_false]
    · simp only [isColB, isOneB, hl, decide_false, Bool.false_and]
  all_goals rfl
end Wk30
namespace Wk30
open PySem PySem.Spec VL
def prD (p : Int × Int) : D := .tup [.int p.1, .int p.2]
theorem pairD_ints : ∀ a b : List Int, pairD (a.map D.int) (b.map D.int) = (a.zip b).map prD
  | [], _ => rfl
  | _ :: _, [] => rfl
  | x :: a, y :: b => by
    have := pairD_ints a b
    simp only [pairD, List.map_cons, List.zipWith_cons_cons, List.zip_cons_cons] at this ⊢
    rw [this]
    rfl
def dM (m : List (Int × Int)) : D := .dK true (m.map fun p => (Sum.inl p.1 : L2.Key)) (m.map fun p => D.int p.2)
theorem getKD_m (c : Int) : ∀ m : List (Int × Int), getKD (m.map fun p => (Sum.inl p.1 : L2.Key)) (m.map fun p => D.int p.2) (Sum.inl c) = (m.lookup c).map D.int
  | [] => rfl
  | (k, v) :: m => by
    simp only [List.map_cons, getKD, getKD_m c m, List.lookup_cons]
    by_cases h : k = c
    · subst h; simp
    · have h' : ¬ c = k := fun z => h z.symm
      have h2 : (c == k) = false := by simpa using h'
      simp [h, h2]
def finB (m : List (Int × Int)) : List (Int × Int) → Bool
  | [] => true
  | p :: ps => match m.lookup p.1 with
    | some f => if f = p.2 then finB m ps else false
    | none => finB (m ++ [p]) ps
abbrev finL : List D → MS := loopM (gTp 2 (gsCons (gNm 3) (gsCons (gNm 4) gsNil))) (sIf (tst (e2 (eMuG ownK 2 (pNm 2) (aCons (xN 3) (aCons (xN 4) aNil)) mSetd) (xN 4) fNe)) (sRet (xC (.bl false))) sNil) [3, 4]
theorem fin_loop (A B : D) : ∀ (ps m : List (Int × Int)), m.length + ps.length ≤ 1000 →
    (finB m ps = true → ∃ m', finL (ps.map prD) [some A, some B, some (dM m), none, none] = .nx [some A, some B, some (dM m'), none, none]) ∧
    (finB m ps = false → ∃ s', finL (ps.map prD) [some A, some B, some (dM m), none, none] = .rt (.bl false) s')
  | [], m, _ => ⟨fun _ => ⟨m, by simp [finL, loopM]⟩, fun h => by simp [finB] at h⟩
  | p :: ps, m, hl => by
    have hg := getKD_m p.1 m
    have hf : m.length ≤ 16777215 := by simp only [List.length_cons] at hl; omega
    cases hk : m.lookup p.1 with
    | some f =>
      rw [hk] at hg
      simp at hg
      obtain ⟨h1, h2⟩ := fin_loop A B ps m (by simp only [List.length_cons] at hl; omega)
      by_cases hq : f = p.2
      · constructor
        · intro h
          obtain ⟨m', e⟩ := h1 (by simpa [finB, hk, hq] using h)
          refine ⟨m', ?_⟩
          simp [finL, loopM, fnM, sSeq, sIf, sAsg, sRet, sExpr, sNil, sPar, puts, tst, eOp, aCons, aNil, xN, xC, xMv, xS, xNot, xAnd, xOr, xIf, xInt, xL, tAndM, tOrM, tNotM, tTrue, fz, fzs, noOwn, noOwns, noFz, noFzs, fIx, fCmp, fI2, fI2c, fAdd, fSub, fMul, fMod, fDiv, fPow, fNeg, fAbs, fMax, fMin, fInt, fLen, fTup, fLst, fDivmod, fInts, cMul, cDiv, cPow, gTp, gsCons, gsNil, gSb, gNm, pNm, pIx, slP, getP, setP, mSet, mAppend, mPopAt, ownL, isLst, eMu, eMuG, L2.ixN, L2.atI, pickIO, putIO, mkAr, xCall, xCallE, xCallT, bVl, bPl, bNil, kill, iSeq, iR1, iR2, iEn, iZp, sFor, fits, i62_eq, i64_eq, ltI_eq, fzs_ints, noOwns_ints, noFzs_ints, okD_ints, ints_map, fEq, fNe, okI, okL, eqD_int, eqD_ints, eqD_nil, prD, dM, mSetd, keyD, hg, hf, hq, ownK] at e ⊢
          exact e
        · intro h
          obtain ⟨s', e⟩ := h2 (by simpa [finB, hk, hq] using h)
          refine ⟨s', ?_⟩
          simp [finL, loopM, fnM, sSeq, sIf, sAsg, sRet, sExpr, sNil, sPar, puts, tst, eOp, aCons, aNil, xN, xC, xMv, xS, xNot, xAnd, xOr, xIf, xInt, xL, tAndM, tOrM, tNotM, tTrue, fz, fzs, noOwn, noOwns, noFz, noFzs, fIx, fCmp, fI2, fI2c, fAdd, fSub, fMul, fMod, fDiv, fPow, fNeg, fAbs, fMax, fMin, fInt, fLen, fTup, fLst, fDivmod, fInts, cMul, cDiv, cPow, gTp, gsCons, gsNil, gSb, gNm, pNm, pIx, slP, getP, setP, mSet, mAppend, mPopAt, ownL, isLst, eMu, eMuG, L2.ixN, L2.atI, pickIO, putIO, mkAr, xCall, xCallE, xCallT, bVl, bPl, bNil, kill, iSeq, iR1, iR2, iEn, iZp, sFor, fits, i62_eq, i64_eq, ltI_eq, fzs_ints, noOwns_ints, noFzs_ints, okD_ints, ints_map, fEq, fNe, okI, okL, eqD_int, eqD_ints, eqD_nil, prD, dM, mSetd, keyD, hg, hf, hq, ownK] at e ⊢
          exact e
      · constructor
        · intro h
          simp [finB, hk, hq] at h
        · intro h
          exact ⟨_, by simp [finL, loopM, fnM, sSeq, sIf, sAsg, sRet, sExpr, sNil, sPar, puts, tst, eOp, aCons, aNil, xN, xC, xMv, xS, xNot, xAnd, xOr, xIf, xInt, xL, tAndM, tOrM, tNotM, tTrue, fz, fzs, noOwn, noOwns, noFz, noFzs, fIx, fCmp, fI2, fI2c, fAdd, fSub, fMul, fMod, fDiv, fPow, fNeg, fAbs, fMax, fMin, fInt, fLen, fTup, fLst, fDivmod, fInts, cMul, cDiv, cPow, gTp, gsCons, gsNil, gSb, gNm, pNm, pIx, slP, getP, setP, mSet, mAppend, mPopAt, ownL, isLst, eMu, eMuG, L2.ixN, L2.atI, pickIO, putIO, mkAr, xCall, xCallE, xCallT, bVl, bPl, bNil, kill, iSeq, iR1, iR2, iEn, iZp, sFor, fits, i62_eq, i64_eq, ltI_eq, fzs_ints, noOwns_ints, noFzs_ints, okD_ints, ints_map, fEq, fNe, okI, okL, eqD_int, eqD_ints, eqD_nil, prD, dM, mSetd, keyD, hg, hf, hq, ownK]; rfl⟩
    | none =>
      rw [hk] at hg
      simp at hg
      obtain ⟨h1, h2⟩ := fin_loop A B ps (m ++ [p]) (by simp only [List.length_cons, List.length_append, List.length_nil] at hl ⊢; omega)
      constructor
      · intro h
        obtain ⟨m', e⟩ := h1 (by simpa [finB, hk] using h)
        refine ⟨m', ?_⟩
        simp [finL, loopM, fnM, sSeq, sIf, sAsg, sRet, sExpr, sNil, sPar, puts, tst, eOp, aCons, aNil, xN, xC, xMv, xS, xNot, xAnd, xOr, xIf, xInt, xL, tAndM, tOrM, tNotM, tTrue, fz, fzs, noOwn, noOwns, noFz, noFzs, fIx, fCmp, fI2, fI2c, fAdd, fSub, fMul, fMod, fDiv, fPow, fNeg, fAbs, fMax, fMin, fInt, fLen, fTup, fLst, fDivmod, fInts, cMul, cDiv, cPow, gTp, gsCons, gsNil, gSb, gNm, pNm, pIx, slP, getP, setP, mSet, mAppend, mPopAt, ownL, isLst, eMu, eMuG, L2.ixN, L2.atI, pickIO, putIO, mkAr, xCall, xCallE, xCallT, bVl, bPl, bNil, kill, iSeq, iR1, iR2, iEn, iZp, sFor, fits, i62_eq, i64_eq, ltI_eq, fzs_ints, noOwns_ints, noFzs_ints, okD_ints, ints_map, fEq, fNe, okI, okL, eqD_int, eqD_ints, eqD_nil, prD, dM, mSetd, keyD, hg, hf, ownK] at e ⊢
        exact e
      · intro h
        obtain ⟨s', e⟩ := h2 (by simpa [finB, hk] using h)
        refine ⟨s', ?_⟩
        simp [finL, loopM, fnM, sSeq, sIf, sAsg, sRet, sExpr, sNil, sPar, puts, tst, eOp, aCons, aNil, xN, xC, xMv, xS, xNot, xAnd, xOr, xIf, xInt, xL, tAndM, tOrM, tNotM, tTrue, fz, fzs, noOwn, noOwns, noFz, noFzs, fIx, fCmp, fI2, fI2c, fAdd, fSub, fMul, fMod, fDiv, fPow, fNeg, fAbs, fMax, fMin, fInt, fLen, fTup, fLst, fDivmod, fInts, cMul, cDiv, cPow, gTp, gsCons, gsNil, gSb, gNm, pNm, pIx, slP, getP, setP, mSet, mAppend, mPopAt, ownL, isLst, eMu, eMuG, L2.ixN, L2.atI, pickIO, putIO, mkAr, xCall, xCallE, xCallT, bVl, bPl, bNil, kill, iSeq, iR1, iR2, iEn, iZp, sFor, fits, i62_eq, i64_eq, ltI_eq, fzs_ints, noOwns_ints, noFzs_ints, okD_ints, ints_map, fEq, fNe, okI, okL, eqD_int, eqD_ints, eqD_nil, prD, dM, mSetd, keyD, hg, hf, ownK] at e ⊢
        exact e
end Wk30
namespace Wk30
open PySem PySem.Spec VL
theorem lookup_snoc (c : Int) (p : Int × Int) : ∀ m : List (Int × Int), (m ++ [p]).lookup c = match m.lookup c with
    | some f => some f
    | none => if c = p.1 then some p.2 else none
  | [] => by
    rw [List.nil_append, List.lookup_cons, List.lookup_nil]
    by_cases h : c = p.1
    · have h2 : (c == p.1) = true := by simpa using h
      rw [h2, if_pos h]
    · have h2 : (c == p.1) = false := by simpa using h
      rw [h2, if_neg h]
  | x :: m => by
    have ih := lookup_snoc c p m
    rw [List.cons_append, List.lookup_cons, List.lookup_cons, ih]
    cases c == x.1 <;> rfl
theorem finB_spec : ∀ (ps m : List (Int × Int)), finB m ps = true ↔ (∀ p ∈ ps, ∀ f, m.lookup p.1 = some f → f = p.2) ∧ ∀ p ∈ ps, ∀ q ∈ ps, p.1 = q.1 → p.2 = q.2
  | [], m => by simp [finB]
  | p :: ps, m => by
    cases hk : m.lookup p.1 with
    | some f =>
      simp only [finB, hk]
      by_cases hq : f = p.2
      · rw [if_pos hq, finB_spec ps m]
        constructor
        · rintro ⟨h1, h2⟩
          refine ⟨fun r hr f' hf => ?_, fun r hr r' hr' e => ?_⟩
          · rcases List.mem_cons.mp hr with rfl | hr
            · rw [hk] at hf; cases hf; exact hq
            · exact h1 r hr f' hf
          · rcases List.mem_cons.mp hr with e1 | hr2 <;> rcases List.mem_cons.mp hr' with e2 | hr2'
            · rw [e1, e2]
            · subst e1; rw [← hq]; exact h1 r' hr2' f (by rw [← e]; exact hk)
            · subst e2; rw [← hq]; exact (h1 r hr2 f (by rw [e]; exact hk)).symm
            · exact h2 r hr2 r' hr2' e
        · rintro ⟨h1, h2⟩
          exact ⟨fun r hr f' hf => h1 r (by simp [hr]) f' hf, fun r hr r' hr' e => h2 r (by simp [hr]) r' (by simp [hr']) e⟩
      · rw [if_neg hq]
        constructor
        · intro h; cases h
        · rintro ⟨h1, _⟩
          exact absurd (h1 p (by simp) f hk) hq
    | none =>
      simp only [finB, hk]
      rw [finB_spec ps (m ++ [p])]
      have hl := fun c => lookup_snoc c p m
      constructor
      · rintro ⟨h1, h2⟩
        have h3 : ∀ r ∈ ps, r.1 = p.1 → p.2 = r.2 := fun r hr e => h1 r hr p.2 (by rw [hl, e, hk]; simp)
        refine ⟨fun r hr f' hf => ?_, fun r hr r' hr' e => ?_⟩
        · rcases List.mem_cons.mp hr with rfl | hr
          · rw [hk] at hf; cases hf
          · exact h1 r hr f' (by rw [hl, hf])
        · rcases List.mem_cons.mp hr with e1 | hr2 <;> rcases List.mem_cons.mp hr' with e2 | hr2'
          · rw [e1, e2]
          · subst e1; exact h3 r' hr2' e.symm
          · subst e2; exact (h3 r hr2 e).symm
          · exact h2 r hr2 r' hr2' e
      · rintro ⟨h1, h2⟩
        refine ⟨fun r hr f' hf => ?_, fun r hr r' hr' e => h2 r (by simp [hr]) r' (by simp [hr']) e⟩
        rw [hl] at hf
        cases hm : m.lookup r.1 with
        | some f'' =>
          rw [hm] at hf
          cases hf
          exact h1 r (by simp [hr]) _ hm
        | none =>
          rw [hm] at hf
          simp only [] at hf
          split at hf
          · rename_i e
            cases hf
            exact h2 p (by simp) r (by simp [hr]) e.symm
          · cases hf
theorem is_finer_ok (a b : List Int) (hl : a.length = b.length) (hb : b.length ≤ 500) : fr_is_finer [.lst false (a.map D.int), .lst false (b.map D.int)] = .ok (.bl (finB [] (a.zip b))) [] := by
  obtain ⟨h1, h2⟩ := fin_loop (.lst false (a.map D.int)) (.lst false (b.map D.int)) (a.zip b) [] (by simp; omega)
  have hp := pairD_ints a b
  cases hf : finB [] (a.zip b) with
  | true =>
    obtain ⟨m', e⟩ := h1 hf
    simp [finL, dM] at e
    simp [fr_is_finer, m_is_finer, fnM, sSeq, sIf, sAsg, sRet, sExpr, sNil, sPar, puts, tst, eOp, aCons, aNil, xN, xC, xMv, xS, xNot, xAnd, xOr, xIf, xInt, xL, tAndM, tOrM, tNotM, tTrue, fz, fzs, noOwn, noOwns, noFz, noFzs, fIx, fCmp, fI2, fI2c, fAdd, fSub, fMul, fMod, fDiv, fPow, fNeg, fAbs, fMax, fMin, fInt, fLen, fTup, fLst, fDivmod, fInts, cMul, cDiv, cPow, gTp, gsCons, gsNil, gSb, gNm, pNm, pIx, slP, getP, setP, mSet, mAppend, mPopAt, ownL, isLst, eMu, eMuG, L2.ixN, L2.atI, pickIO, putIO, mkAr, xCall, xCallE, xCallT, bVl, bPl, bNil, kill, iSeq, iR1, iR2, iEn, iZp, sFor, fits, i62_eq, i64_eq, ltI_eq, fzs_ints, noOwns_ints, noFzs_ints, okD_ints, ints_map, fEq, fNe, okI, okL, eqD_int, eqD_ints, eqD_nil, xDNew, hp, e]
  | false =>
    obtain ⟨s', e⟩ := h2 hf
    simp [finL, dM] at e
    simp [fr_is_finer, m_is_finer, fnM, sSeq, sIf, sAsg, sRet, sExpr, sNil, sPar, puts, tst, eOp, aCons, aNil, xN, xC, xMv, xS, xNot, xAnd, xOr, xIf, xInt, xL, tAndM, tOrM, tNotM, tTrue, fz, fzs, noOwn, noOwns, noFz, noFzs, fIx, fCmp, fI2, fI2c, fAdd, fSub, fMul, fMod, fDiv, fPow, fNeg, fAbs, fMax, fMin, fInt, fLen, fTup, fLst, fDivmod, fInts, cMul, cDiv, cPow, gTp, gsCons, gsNil, gSb, gNm, pNm, pIx, slP, getP, setP, mSet, mAppend, mPopAt, ownL, isLst, eMu, eMuG, L2.ixN, L2.atI, pickIO, putIO, mkAr, xCall, xCallE, xCallT, bVl, bPl, bNil, kill, iSeq, iR1, iR2, iEn, iZp, sFor, fits, i62_eq, i64_eq, ltI_eq, fzs_ints, noOwns_ints, noFzs_ints, okD_ints, ints_map, fEq, fNe, okI, okL, eqD_int, eqD_ints, eqD_nil, xDNew, hp, e]
end Wk30
namespace Wk30
open PySem PySem.Spec VL
def gt (a : List Int) (i : Int) : Int := a.getD i.toNat 0
theorem at_gt {a : List Int} {i : Int} (h0 : 0 ≤ i) (h1 : i < a.length) : (a[i.toNat]?).map D.int = some (.int (gt a i)) := by
  have h : i.toNat < a.length := by omega
  unfold gt
  rw [getD_lt h, List.getElem?_eq_getElem h]
  rfl
theorem gt_at {a : List Int} {i : Int} (h0 : 0 ≤ i) (h1 : i < a.length) : gt a i = a[i.toNat]'(by omega) := getD_lt (by omega)
def unD : D → Int × Int
  | .tup [.int x, .int y] => (x, y)
  | _ => (0, 0)
theorem unD_prD (p : Int × Int) : unD (prD p) = p := rfl
def kpOk (a : List Int) (p q : Int × Int) : Bool := !(decide (p.2 < q.2) && decide (gt a q.1 ≤ gt a p.1))
theorem keeps_in (a : List Int) (b : List Int) (p : Int × Int) (es : List (Int × Int)) (hp : 0 ≤ p.1 ∧ p.1 < a.length) (he : ∀ q ∈ es, 0 ≤ q.1 ∧ q.1 < a.length) :
    (es.all (kpOk a p) = true → loopM (gTp 2 (gsCons (gNm 4) (gsCons (gNm 5) gsNil))) (sIf (tAndM (tst (e2 (xN 3) (xN 5) (fCmp fun i j => decide (i < j)))) (tst (e2 (e2 (xN 0) (xN 2) fIx) (e2 (xN 0) (xN 4) fIx) (fCmp fun i j => decide (j ≤ i))))) (sRet (xC (.bl false))) sNil) [4, 5] (es.map prD) [some (.lst false (a.map D.int)), some (.lst false (b.map D.int)), some (.int p.1), some (.int p.2), none, none] = .nx [some (.lst false (a.map D.int)), some (.lst false (b.map D.int)), some (.int p.1), some (.int p.2), none, none]) ∧
    (es.all (kpOk a p) = false → ∃ s', loopM (gTp 2 (gsCons (gNm 4) (gsCons (gNm 5) gsNil))) (sIf (tAndM (tst (e2 (xN 3) (xN 5) (fCmp fun i j => decide (i < j)))) (tst (e2 (e2 (xN 0) (xN 2) fIx) (e2 (xN 0) (xN 4) fIx) (fCmp fun i j => decide (j ≤ i))))) (sRet (xC (.bl false))) sNil) [4, 5] (es.map prD) [some (.lst false (a.map D.int)), some (.lst false (b.map D.int)), some (.int p.1), some (.int p.2), none, none] = .rt (.bl false) s') := by
  have h := loopM_srch (g := gTp 2 (gsCons (gNm 4) (gsCons (gNm 5) gsNil))) (body := sIf (tAndM (tst (e2 (xN 3) (xN 5) (fCmp fun i j => decide (i < j)))) (tst (e2 (e2 (xN 0) (xN 2) fIx) (e2 (xN 0) (xN 4) fIx) (fCmp fun i j => decide (j ≤ i))))) (sRet (xC (.bl false))) sNil) (dead := [4, 5]) (r := .bl false) (s0 := [some (.lst false (a.map D.int)), some (.lst false (b.map D.int)), some (.int p.1), some (.int p.2), none, none]) (fun d => kpOk a p (unD d)) (es.map prD) (fun d hd hk => by
      obtain ⟨q, hq, rfl⟩ := List.mem_map.mp hd
      have g1 := at_gt hp.1 hp.2
      have g2 := at_gt (he q hq).1 (he q hq).2
      refine ⟨[some (.lst false (a.map D.int)), some (.lst false (b.map D.int)), some (.int p.1), some (.int p.2), some (.int q.1), some (.int q.2)], [some (.lst false (a.map D.int)), some (.lst false (b.map D.int)), some (.int p.1), some (.int p.2), some (.int q.1), some (.int q.2)], rfl, ?_, rfl⟩
      rw [unD_prD] at hk
      simp only [kpOk] at hk
      by_cases h1 : p.2 < q.2
      · have h2 : ¬ gt a q.1 ≤ gt a p.1 := by simpa [h1] using hk
        simp [fnM, sSeq, sIf, sAsg, sRet, sExpr, sNil, sPar, puts, tst, eOp, aCons, aNil, xN, xC, xMv, xS, xNot, xAnd, xOr, xIf, xInt, xL, tAndM, tOrM, tNotM, tTrue, fz, fzs, noOwn, noOwns, noFz, noFzs, fIx, fCmp, fI2, fI2c, fAdd, fSub, fMul, fMod, fDiv, fPow, fNeg, fAbs, fMax, fMin, fInt, fLen, fTup, fLst, fDivmod, fInts, cMul, cDiv, cPow, gTp, gsCons, gsNil, gSb, gNm, pNm, pIx, slP, getP, setP, mSet, mAppend, mPopAt, ownL, isLst, eMu, eMuG, L2.ixN, L2.atI, pickIO, putIO, mkAr, xCall, xCallE, xCallT, bVl, bPl, bNil, kill, iSeq, iR1, iR2, iEn, iZp, sFor, fits, i62_eq, i64_eq, ltI_eq, fzs_ints, noOwns_ints, noFzs_ints, okD_ints, ints_map, fEq, fNe, okI, okL, eqD_int, eqD_ints, eqD_nil, h1, (he q hq).1, (he q hq).2, hp.1, hp.2, g1, g2, h2]
        rw [gt_at hp.1 hp.2, gt_at (he q hq).1 (he q hq).2] at h2
        omega
      · simp [fnM, sSeq, sIf, sAsg, sRet, sExpr, sNil, sPar, puts, tst, eOp, aCons, aNil, xN, xC, xMv, xS, xNot, xAnd, xOr, xIf, xInt, xL, tAndM, tOrM, tNotM, tTrue, fz, fzs, noOwn, noOwns, noFz, noFzs, fIx, fCmp, fI2, fI2c, fAdd, fSub, fMul, fMod, fDiv, fPow, fNeg, fAbs, fMax, fMin, fInt, fLen, fTup, fLst, fDivmod, fInts, cMul, cDiv, cPow, gTp, gsCons, gsNil, gSb, gNm, pNm, pIx, slP, getP, setP, mSet, mAppend, mPopAt, ownL, isLst, eMu, eMuG, L2.ixN, L2.atI, pickIO, putIO, mkAr, xCall, xCallE, xCallT, bVl, bPl, bNil, kill, iSeq, iR1, iR2, iEn, iZp, sFor, fits, i62_eq, i64_eq, ltI_eq, fzs_ints, noOwns_ints, noFzs_ints, okD_ints, ints_map, fEq, fNe, okI, okL, eqD_int, eqD_ints, eqD_nil, h1]) (fun d hd hk => by
      obtain ⟨q, hq, rfl⟩ := List.mem_map.mp hd
      have g1 := at_gt hp.1 hp.2
      have g2 := at_gt (he q hq).1 (he q hq).2
      refine ⟨[some (.lst false (a.map D.int)), some (.lst false (b.map D.int)), some (.int p.1), some (.int p.2), some (.int q.1), some (.int q.2)], [some (.lst false (a.map D.int)), some (.lst false (b.map D.int)), some (.int p.1), some (.int p.2), some (.int q.1), some (.int q.2)], rfl, ?_⟩
      rw [unD_prD] at hk
      simp only [kpOk] at hk
      have h1 : p.2 < q.2 ∧ gt a q.1 ≤ gt a p.1 := by simpa using hk
      have h2 := h1.2
      rw [gt_at hp.1 hp.2, gt_at (he q hq).1 (he q hq).2] at h2
      simp [fnM, sSeq, sIf, sAsg, sRet, sExpr, sNil, sPar, puts, tst, eOp, aCons, aNil, xN, xC, xMv, xS, xNot, xAnd, xOr, xIf, xInt, xL, tAndM, tOrM, tNotM, tTrue, fz, fzs, noOwn, noOwns, noFz, noFzs, fIx, fCmp, fI2, fI2c, fAdd, fSub, fMul, fMod, fDiv, fPow, fNeg, fAbs, fMax, fMin, fInt, fLen, fTup, fLst, fDivmod, fInts, cMul, cDiv, cPow, gTp, gsCons, gsNil, gSb, gNm, pNm, pIx, slP, getP, setP, mSet, mAppend, mPopAt, ownL, isLst, eMu, eMuG, L2.ixN, L2.atI, pickIO, putIO, mkAr, xCall, xCallE, xCallT, bVl, bPl, bNil, kill, iSeq, iR1, iR2, iEn, iZp, sFor, fits, i62_eq, i64_eq, ltI_eq, fzs_ints, noOwns_ints, noFzs_ints, okD_ints, ints_map, fEq, fNe, okI, okL, eqD_int, eqD_ints, eqD_nil, h1.1, h2, (he q hq).1, (he q hq).2, hp.1, hp.2])
  rw [List.all_map] at h
  exact h
theorem keeps_ok (a b : List Int) (hl : a.length = b.length) : fr_keeps_sequence [.lst false (a.map D.int), .lst false (b.map D.int)] = .ok (.bl (((upto b.length).zip b).all fun p => ((upto b.length).zip b).all (kpOk a p))) [] := by
  obtain ⟨es, hes⟩ : ∃ es, es = (upto b.length).zip b := ⟨_, rfl⟩
  have hm : ∀ q ∈ es, 0 ≤ q.1 ∧ q.1 < a.length := fun q hq => by
    rw [hes] at hq
    have := enum_mem hq
    rw [hl]
    exact ⟨this.1, this.2.1⟩
  have hen : enumD (b.map D.int) = es.map prD := by rw [enumD_ints, hes]; rfl
  rw [← hes]
  have h := loopM_srch (g := gTp 2 (gsCons (gNm 2) (gsCons (gNm 3) gsNil))) (body := sFor (iEn (aCons (xN 1) aNil)) (gTp 2 (gsCons (gNm 4) (gsCons (gNm 5) gsNil))) (sIf (tAndM (tst (e2 (xN 3) (xN 5) (fCmp fun i j => decide (i < j)))) (tst (e2 (e2 (xN 0) (xN 2) fIx) (e2 (xN 0) (xN 4) fIx) (fCmp fun i j => decide (j ≤ i))))) (sRet (xC (.bl false))) sNil) [4, 5]) (dead := [2, 3, 4, 5]) (r := .bl false) (s0 := [some (.lst false (a.map D.int)), some (.lst false (b.map D.int)), none, none, none, none]) (fun d => es.all (kpOk a (unD d))) (es.map prD) (fun d hd hk => by
      obtain ⟨p, hp, rfl⟩ := List.mem_map.mp hd
      rw [unD_prD] at hk
      have q := (keeps_in a b p es (hm p hp) hm).1 hk
      refine ⟨[some (.lst false (a.map D.int)), some (.lst false (b.map D.int)), some (.int p.1), some (.int p.2), none, none], [some (.lst false (a.map D.int)), some (.lst false (b.map D.int)), some (.int p.1), some (.int p.2), none, none], rfl, ?_, rfl⟩
      simp [fnM, sSeq, sIf, sAsg, sRet, sExpr, sNil, sPar, puts, tst, eOp, aCons, aNil, xN, xC, xMv, xS, xNot, xAnd, xOr, xIf, xInt, xL, tAndM, tOrM, tNotM, tTrue, fz, fzs, noOwn, noOwns, noFz, noFzs, fIx, fCmp, fI2, fI2c, fAdd, fSub, fMul, fMod, fDiv, fPow, fNeg, fAbs, fMax, fMin, fInt, fLen, fTup, fLst, fDivmod, fInts, cMul, cDiv, cPow, gTp, gsCons, gsNil, gSb, gNm, pNm, pIx, slP, getP, setP, mSet, mAppend, mPopAt, ownL, isLst, eMu, eMuG, L2.ixN, L2.atI, pickIO, putIO, mkAr, xCall, xCallE, xCallT, bVl, bPl, bNil, kill, iSeq, iR1, iR2, iEn, iZp, sFor, fits, i62_eq, i64_eq, ltI_eq, fzs_ints, noOwns_ints, noFzs_ints, okD_ints, ints_map, fEq, fNe, okI, okL, eqD_int, eqD_ints, eqD_nil, hen, q]) (fun d hd hk => by
      obtain ⟨p, hp, rfl⟩ := List.mem_map.mp hd
      rw [unD_prD] at hk
      obtain ⟨s', q⟩ := (keeps_in a b p es (hm p hp) hm).2 hk
      refine ⟨[some (.lst false (a.map D.int)), some (.lst false (b.map D.int)), some (.int p.1), some (.int p.2), none, none], s', rfl, ?_⟩
      simp [fnM, sSeq, sIf, sAsg, sRet, sExpr, sNil, sPar, puts, tst, eOp, aCons, aNil, xN, xC, xMv, xS, xNot, xAnd, xOr, xIf, xInt, xL, tAndM, tOrM, tNotM, tTrue, fz, fzs, noOwn, noOwns, noFz, noFzs, fIx, fCmp, fI2, fI2c, fAdd, fSub, fMul, fMod, fDiv, fPow, fNeg, fAbs, fMax, fMin, fInt, fLen, fTup, fLst, fDivmod, fInts, cMul, cDiv, cPow, gTp, gsCons, gsNil, gSb, gNm, pNm, pIx, slP, getP, setP, mSet, mAppend, mPopAt, ownL, isLst, eMu, eMuG, L2.ixN, L2.atI, pickIO, putIO, mkAr, xCall, xCallE, xCallT, bVl, bPl, bNil, kill, iSeq, iR1, iR2, iEn, iZp, sFor, fits, i62_eq, i64_eq, ltI_eq, fzs_ints, noOwns_ints, noFzs_ints, okD_ints, ints_map, fEq, fNe, okI, okL, eqD_int, eqD_ints, eqD_nil, hen, q])
  rw [List.all_map] at h
  cases hc : es.all fun p => es.all (kpOk a p) with
  | true =>
    have q := h.1 hc
    simp [fr_keeps_sequence, m_keeps_sequence, fnM, sSeq, sIf, sAsg, sRet, sExpr, sNil, sPar, puts, tst, eOp, aCons, aNil, xN, xC, xMv, xS, xNot, xAnd, xOr, xIf, xInt, xL, tAndM, tOrM, tNotM, tTrue, fz, fzs, noOwn, noOwns, noFz, noFzs, fIx, fCmp, fI2, fI2c, fAdd, fSub, fMul, fMod, fDiv, fPow, fNeg, fAbs, fMax, fMin, fInt, fLen, fTup, fLst, fDivmod, fInts, cMul, cDiv, cPow, gTp, gsCons, gsNil, gSb, gNm, pNm, pIx, slP, getP, setP, mSet, mAppend, mPopAt, ownL, isLst, eMu, eMuG, L2.ixN, L2.atI, pickIO, putIO, mkAr, xCall, xCallE, xCallT, bVl, bPl, bNil, kill, iSeq, iR1, iR2, iEn, iZp, sFor, fits, i62_eq, i64_eq, ltI_eq, fzs_ints, noOwns_ints, noFzs_ints, okD_ints, ints_map, fEq, fNe, okI, okL, eqD_int, eqD_ints, eqD_nil, hen, q]
  | false =>
    obtain ⟨s', q⟩ := h.2 hc
    simp [fr_keeps_sequence, m_keeps_sequence, fnM, sSeq, sIf, sAsg, sRet, sExpr, sNil, sPar, puts, tst, eOp, aCons, aNil, xN, xC, xMv, xS, xNot, xAnd, xOr, xIf, xInt, xL, tAndM, tOrM, tNotM, tTrue, fz, fzs, noOwn, noOwns, noFz, noFzs, fIx, fCmp, fI2, fI2c, fAdd, fSub, fMul, fMod, fDiv, fPow, fNeg, fAbs, fMax, fMin, fInt, fLen, fTup, fLst, fDivmod, fInts, cMul, cDiv, cPow, gTp, gsCons, gsNil, gSb, gNm, pNm, pIx, slP, getP, setP, mSet, mAppend, mPopAt, ownL, isLst, eMu, eMuG, L2.ixN, L2.atI, pickIO, putIO, mkAr, xCall, xCallE, xCallT, bVl, bPl, bNil, kill, iSeq, iR1, iR2, iEn, iZp, sFor, fits, i62_eq, i64_eq, ltI_eq, fzs_ints, noOwns_ints, noFzs_ints, okD_ints, ints_map, fEq, fNe, okI, okL, eqD_int, eqD_ints, eqD_nil, hen, q]
end Wk30
namespace Wk30
open PySem PySem.Spec VL
def fnP (b : List Int) (p q : Int × Int) : Bool := !(decide (p.2 = q.2) && !decide (gt b p.1 = gt b q.1))
def kpP (b : List Int) (p q : Int × Int) : Bool := !(decide (gt b p.1 < gt b q.1) && decide (q.2 ≤ p.2))
def stp2 (b : List Int) (p : Int × Int) (fk : Bool × Bool) (q : Int × Int) : Bool × Bool := (fk.1 && fnP b p q, fk.2 && kpP b p q)
abbrev cmpIn : MS := sSeq (sIf (tAndM (tst (e2 (xN 5) (xN 7) fEq)) (tst (e2 (e2 (xN 1) (xN 4) fIx) (e2 (xN 1) (xN 6) fIx) fNe))) (sAsg (xC (.bl false)) (gNm 2)) sNil)
    (sIf (tAndM (tst (e2 (e2 (xN 1) (xN 4) fIx) (e2 (xN 1) (xN 6) fIx) (fCmp fun i j => decide (i < j)))) (tst (e2 (xN 5) (xN 7) (fCmp fun i j => decide (j ≤ i))))) (sAsg (xC (.bl false)) (gNm 3)) sNil)
theorem cmp_in (A : D) (b : List Int) (p : Int × Int) (es : List (Int × Int)) (hp : 0 ≤ p.1 ∧ p.1 < b.length) (he : ∀ q ∈ es, 0 ≤ q.1 ∧ q.1 < b.length) (fk : Bool × Bool) :
    loopM (gTp 2 (gsCons (gNm 6) (gsCons (gNm 7) gsNil))) cmpIn [6, 7] (es.map prD) [some A, some (.lst false (b.map D.int)), some (.bl fk.1), some (.bl fk.2), some (.int p.1), some (.int p.2), none, none] =
    .nx [some A, some (.lst false (b.map D.int)), some (.bl (es.foldl (stp2 b p) fk).1), some (.bl (es.foldl (stp2 b p) fk).2), some (.int p.1), some (.int p.2), none, none] := by
  have h := loopM_fold (g := gTp 2 (gsCons (gNm 6) (gsCons (gNm 7) gsNil))) (body := cmpIn) (dead := [6, 7]) (fun fk : Bool × Bool => [some A, some (.lst false (b.map D.int)), some (.bl fk.1), some (.bl fk.2), some (.int p.1), some (.int p.2), none, none]) (fun fk d => stp2 b p fk (unD d)) (fun _ => True) (es.map prD) fk trivial (fun d hd fk _ => by
    obtain ⟨q, hq, rfl⟩ := List.mem_map.mp hd
    have g1 := gt_at hp.1 hp.2
    have g2 := gt_at (he q hq).1 (he q hq).2
    refine ⟨trivial, [some A, some (.lst false (b.map D.int)), some (.bl fk.1), some (.bl fk.2), some (.int p.1), some (.int p.2), some (.int q.1), some (.int q.2)], [some A, some (.lst false (b.map D.int)), some (.bl (stp2 b p fk q).1), some (.bl (stp2 b p fk q).2), some (.int p.1), some (.int p.2), some (.int q.1), some (.int q.2)], rfl, ?_, by rw [unD_prD]; rfl⟩
    obtain ⟨f, k⟩ := fk
    simp only [stp2, fnP, kpP, g1, g2]
    by_cases h1 : p.2 = q.2 <;> by_cases h2 : b[p.1.toNat]'(by omega) = b[q.1.toNat]'(by have := he q hq; omega) <;> by_cases h3 : b[p.1.toNat]'(by omega) < b[q.1.toNat]'(by have := he q hq; omega) <;> by_cases h4 : q.2 ≤ p.2 <;> first
      | (exfalso; omega)
      | simp [cmpIn, fnM, sSeq, sIf, sAsg, sRet, sExpr, sNil, sPar, puts, tst, eOp, aCons, aNil, xN, xC, xMv, xS, xNot, xAnd, xOr, xIf, xInt, xL, tAndM, tOrM, tNotM, tTrue, fz, fzs, noOwn, noOwns, noFz, noFzs, fIx, fCmp, fI2, fI2c, fAdd, fSub, fMul, fMod, fDiv, fPow, fNeg, fAbs, fMax, fMin, fInt, fLen, fTup, fLst, fDivmod, fInts, cMul, cDiv, cPow, gTp, gsCons, gsNil, gSb, gNm, pNm, pIx, slP, getP, setP, mSet, mAppend, mPopAt, ownL, isLst, eMu, eMuG, L2.ixN, L2.atI, pickIO, putIO, mkAr, xCall, xCallE, xCallT, bVl, bPl, bNil, kill, iSeq, iR1, iR2, iEn, iZp, sFor, fits, i62_eq, i64_eq, ltI_eq, fzs_ints, noOwns_ints, noFzs_ints, okD_ints, ints_map, fEq, fNe, okI, okL, eqD_int, eqD_ints, eqD_nil, h1, h2, h3, h4, (he q hq).1, (he q hq).2, hp.1, hp.2])
  rw [List.foldl_map] at h
  exact h.1
end Wk30
namespace Wk30
open PySem PySem.Spec VL
theorem stp2_fold (b : List Int) (p : Int × Int) : ∀ (es : List (Int × Int)) (fk : Bool × Bool), es.foldl (stp2 b p) fk = (fk.1 && es.all (fnP b p), fk.2 && es.all (kpP b p))
  | [], fk => by simp
  | q :: es, fk => by
    rw [List.foldl_cons, stp2_fold b p es]
    simp [stp2, Bool.and_assoc]
theorem two_fold (b : List Int) (es : List (Int × Int)) : ∀ (ps : List (Int × Int)) (fk : Bool × Bool), ps.foldl (fun fk p => es.foldl (stp2 b p) fk) fk = (fk.1 && ps.all (fun p => es.all (fnP b p)), fk.2 && ps.all (fun p => es.all (kpP b p)))
  | [], fk => by simp
  | p :: ps, fk => by
    rw [List.foldl_cons, two_fold b es ps, stp2_fold]
    simp [Bool.and_assoc]
theorem compared_ok (a b : List Int) (hl : a.length = b.length) : fr__law_compared [.lst false (a.map D.int), .lst false (b.map D.int)] = .ok (.lst true [.bl (((upto a.length).zip a).all fun p => ((upto a.length).zip a).all (fnP b p)), .bl (((upto a.length).zip a).all fun p => ((upto a.length).zip a).all (kpP b p))]) [] := by
  obtain ⟨es, hes⟩ : ∃ es, es = (upto a.length).zip a := ⟨_, rfl⟩
  have hm : ∀ q ∈ es, 0 ≤ q.1 ∧ q.1 < b.length := fun q hq => by
    rw [hes] at hq
    have := enum_mem hq
    rw [← hl]
    exact ⟨this.1, this.2.1⟩
  have hen : enumD (a.map D.int) = es.map prD := by rw [enumD_ints, hes]; rfl
  rw [← hes]
  have h := loopM_fold (g := gTp 2 (gsCons (gNm 4) (gsCons (gNm 5) gsNil))) (body := sFor (iEn (aCons (xN 0) aNil)) (gTp 2 (gsCons (gNm 6) (gsCons (gNm 7) gsNil))) cmpIn [6, 7]) (dead := [4, 5, 6, 7]) (fun fk : Bool × Bool => [some (.lst false (a.map D.int)), some (.lst false (b.map D.int)), some (.bl fk.1), some (.bl fk.2), none, none, none, none]) (fun fk d => es.foldl (stp2 b (unD d)) fk) (fun _ => True) (es.map prD) (true, true) trivial (fun d hd fk _ => by
    obtain ⟨p, hp, rfl⟩ := List.mem_map.mp hd
    have q := cmp_in (.lst false (a.map D.int)) b p es (hm p hp) hm fk
    refine ⟨trivial, [some (.lst false (a.map D.int)), some (.lst false (b.map D.int)), some (.bl fk.1), some (.bl fk.2), some (.int p.1), some (.int p.2), none, none], [some (.lst false (a.map D.int)), some (.lst false (b.map D.int)), some (.bl (es.foldl (stp2 b p) fk).1), some (.bl (es.foldl (stp2 b p) fk).2), some (.int p.1), some (.int p.2), none, none], rfl, ?_, by rw [unD_prD]; rfl⟩
    generalize hM : cmpIn = M at q
    simp [fnM, sSeq, sIf, sAsg, sRet, sExpr, sNil, sPar, puts, tst, eOp, aCons, aNil, xN, xC, xMv, xS, xNot, xAnd, xOr, xIf, xInt, xL, tAndM, tOrM, tNotM, tTrue, fz, fzs, noOwn, noOwns, noFz, noFzs, fIx, fCmp, fI2, fI2c, fAdd, fSub, fMul, fMod, fDiv, fPow, fNeg, fAbs, fMax, fMin, fInt, fLen, fTup, fLst, fDivmod, fInts, cMul, cDiv, cPow, gTp, gsCons, gsNil, gSb, gNm, pNm, pIx, slP, getP, setP, mSet, mAppend, mPopAt, ownL, isLst, eMu, eMuG, L2.ixN, L2.atI, pickIO, putIO, mkAr, xCall, xCallE, xCallT, bVl, bPl, bNil, kill, iSeq, iR1, iR2, iEn, iZp, sFor, fits, i62_eq, i64_eq, ltI_eq, fzs_ints, noOwns_ints, noFzs_ints, okD_ints, ints_map, fEq, fNe, okI, okL, eqD_int, eqD_ints, eqD_nil, hen, q])
  have h := h.1
  rw [List.foldl_map] at h
  simp only [unD_prD] at h
  rw [two_fold] at h
  have hc : m__law_compared = sSeq (sAsg (eOp (aCons (xC (.bl true)) (aCons (xC (.bl true)) aNil)) fTup) (gTp 2 (gsCons (gNm 2) (gsCons (gNm 3) gsNil))))
    (sSeq (sFor (iEn (aCons (xN 0) aNil)) (gTp 2 (gsCons (gNm 4) (gsCons (gNm 5) gsNil))) (sFor (iEn (aCons (xN 0) aNil)) (gTp 2 (gsCons (gNm 6) (gsCons (gNm 7) gsNil))) cmpIn [6, 7]) [4, 5, 6, 7])
    (sRet (eOp (aCons (xN 2) (aCons (xN 3) aNil)) fLst))) := rfl
  generalize hM : sFor (iEn (aCons (xN 0) aNil)) (gTp 2 (gsCons (gNm 6) (gsCons (gNm 7) gsNil))) cmpIn [6, 7] = M at h hc
  simp only [Bool.true_and] at h
  simp [fr__law_compared, hc, fnM, sSeq, sIf, sAsg, sRet, sExpr, sNil, sPar, puts, tst, eOp, aCons, aNil, xN, xC, xMv, xS, xNot, xAnd, xOr, xIf, xInt, xL, tAndM, tOrM, tNotM, tTrue, fz, fzs, noOwn, noOwns, noFz, noFzs, fIx, fCmp, fI2, fI2c, fAdd, fSub, fMul, fMod, fDiv, fPow, fNeg, fAbs, fMax, fMin, fInt, fLen, fTup, fLst, fDivmod, fInts, cMul, cDiv, cPow, gTp, gsCons, gsNil, gSb, gNm, pNm, pIx, slP, getP, setP, mSet, mAppend, mPopAt, ownL, isLst, eMu, eMuG, L2.ixN, L2.atI, pickIO, putIO, mkAr, xCall, xCallE, xCallT, bVl, bPl, bNil, kill, iSeq, iR1, iR2, iEn, iZp, sFor, fits, i62_eq, i64_eq, ltI_eq, fzs_ints, noOwns_ints, noFzs_ints, okD_ints, ints_map, fEq, fNe, okI, okL, eqD_int, eqD_ints, eqD_nil, hen, h]
end Wk30
namespace Wk30
open PySem PySem.Spec VL
theorem es_all (a : List Int) (P : Int × Int → Bool) : ((upto a.length).zip a).all P = true ↔ ∀ i (h : i < a.length), P ((i : Int), a[i]) = true := by
  rw [List.all_eq_true]
  constructor
  · intro h i hi
    refine h _ (List.mem_iff_getElem.mpr ⟨i, by rw [List.length_zip, upto_length, Nat.min_self]; exact hi, ?_⟩)
    rw [List.getElem_zip]
    simp [upto]
  · intro h p hp
    obtain ⟨h1, h2, h3⟩ := enum_mem hp
    have hi : p.1.toNat < a.length := by omega
    have := h p.1.toNat hi
    rw [List.getElem?_eq_getElem hi] at h3
    have e1 : ((p.1.toNat : Nat) : Int) = p.1 := by omega
    rw [e1, Option.some.inj h3] at this
    exact this
theorem zip_mem {a b : List Int} {p : Int × Int} : p ∈ a.zip b ↔ ∃ (i : Nat) (h1 : i < a.length) (h2 : i < b.length), p = (a[i], b[i]) := by
  rw [List.mem_iff_getElem]
  constructor
  · rintro ⟨i, hi, rfl⟩
    rw [List.length_zip] at hi
    exact ⟨i, by omega, by omega, List.getElem_zip ..⟩
  · rintro ⟨i, h1, h2, rfl⟩
    exact ⟨i, by rw [List.length_zip]; omega, List.getElem_zip ..⟩
theorem gt_nat {b : List Int} {i : Nat} (h : i < b.length) : gt b (i : Int) = b[i] := by
  unfold gt
  exact getD_lt h
theorem finer_eq (a b : List Int) (hl : a.length = b.length) : finB [] (a.zip b) = ((upto a.length).zip a).all fun p => ((upto a.length).zip a).all (fnP b p) := by
  rw [Bool.eq_iff_iff, finB_spec, es_all]
  constructor
  · rintro ⟨_, h⟩ i hi
    rw [es_all]
    intro j hj
    have := h (a[i], b[i]) (zip_mem.mpr ⟨i, hi, by omega, rfl⟩) (a[j], b[j]) (zip_mem.mpr ⟨j, hj, by omega, rfl⟩)
    simp only [fnP, gt_nat (show i < b.length by omega), gt_nat (show j < b.length by omega)]
    by_cases q : a[i] = a[j]
    · have e2 : b[i] = b[j] := this q
      simp [q, e2]
    · simp [q]
  · intro h
    refine ⟨fun p hp f hf => by simp at hf, fun p hp q hq e => ?_⟩
    obtain ⟨i, hi, hi2, rfl⟩ := zip_mem.mp hp
    obtain ⟨j, hj, hj2, rfl⟩ := zip_mem.mp hq
    have := (es_all a _).mp (h i hi) j hj
    simp only [fnP, gt_nat hi2, gt_nat hj2] at this e ⊢
    simpa [e] using this
theorem keeps_eq (a b : List Int) (hl : a.length = b.length) : (((upto b.length).zip b).all fun p => ((upto b.length).zip b).all (kpOk a p)) = ((upto a.length).zip a).all fun p => ((upto a.length).zip a).all (kpP b p) := by
  rw [Bool.eq_iff_iff, es_all, es_all]
  constructor
  · intro h i hi
    rw [es_all]
    intro j hj
    have := (es_all b _).mp (h i (by omega)) j (by omega)
    simp only [kpOk, kpP, gt_nat hi, gt_nat hj, gt_nat (show i < b.length by omega), gt_nat (show j < b.length by omega)] at this ⊢
    exact this
  · intro h i hi
    rw [es_all]
    intro j hj
    have := (es_all a _).mp (h i (by omega)) j (by omega)
    simp only [kpOk, kpP, gt_nat hi, gt_nat hj, gt_nat (show i < a.length by omega), gt_nat (show j < a.length by omega)] at this ⊢
    exact this
end Wk30
namespace Wk30
open PySem PySem.Spec VL
/-- the colours put where the numbering says -/
def ledF (num : List Int) (es : List (Int × Int)) (acc : List Int) : List Int := es.foldl (fun acc p => acc.set (gt num p.1).toNat p.2) acc
theorem led_loop (num : List Int) (A : D) (es : List (Int × Int)) (he : ∀ q ∈ es, 0 ≤ q.1 ∧ q.1 < num.length) (n : Nat) (hn : ∀ x ∈ num, 0 ≤ x ∧ x < n) (acc : List Int) (ha : acc.length = n) :
    loopM (gTp 2 (gsCons (gNm 4) (gsCons (gNm 3) gsNil))) (sAsg (xN 3) (gSb 2 (pNm 2) (e2 (xN 1) (xN 4) fIx))) [3, 4] (es.map prD) [some A, some (.lst false (num.map D.int)), some (.lst true (acc.map D.int)), none, none] =
    .nx [some A, some (.lst false (num.map D.int)), some (.lst true ((ledF num es acc).map D.int)), none, none] := by
  have h := loopM_fold (g := gTp 2 (gsCons (gNm 4) (gsCons (gNm 3) gsNil))) (body := sAsg (xN 3) (gSb 2 (pNm 2) (e2 (xN 1) (xN 4) fIx))) (dead := [3, 4]) (fun acc : List Int => [some A, some (.lst false (num.map D.int)), some (.lst true (acc.map D.int)), none, none]) (fun acc d => acc.set (gt num (unD d).1).toNat (unD d).2) (fun acc => acc.length = n) (es.map prD) acc ha (fun d hd acc ha => by
    obtain ⟨q, hq, rfl⟩ := List.mem_map.mp hd
    have h1 := he q hq
    have g1 := gt_at h1.1 h1.2
    have hm : num[q.1.toNat]'(by omega) ∈ num := List.getElem_mem _
    have hx := hn _ hm
    have hx2 : (num[q.1.toNat]'(by omega)).toNat < acc.length := by omega
    have hx3 : num[q.1.toNat]'(by omega) < (acc.length : Int) := by omega
    rw [unD_prD, g1]
    refine ⟨by rw [List.length_set]; exact ha, [some A, some (.lst false (num.map D.int)), some (.lst true (acc.map D.int)), some (.int q.2), some (.int q.1)], [some A, some (.lst false (num.map D.int)), some (.lst true ((acc.set (num[q.1.toNat]'(by omega)).toNat q.2).map D.int)), some (.int q.2), some (.int q.1)], rfl, ?_, rfl⟩
    simp [fnM, sSeq, sIf, sAsg, sRet, sExpr, sNil, sPar, puts, tst, eOp, aCons, aNil, xN, xC, xMv, xS, xNot, xAnd, xOr, xIf, xInt, xL, tAndM, tOrM, tNotM, tTrue, fz, fzs, noOwn, noOwns, noFz, noFzs, fIx, fCmp, fI2, fI2c, fAdd, fSub, fMul, fMod, fDiv, fPow, fNeg, fAbs, fMax, fMin, fInt, fLen, fTup, fLst, fDivmod, fInts, cMul, cDiv, cPow, gTp, gsCons, gsNil, gSb, gNm, pNm, pIx, slP, getP, setP, mSet, mAppend, mPopAt, ownL, isLst, eMu, eMuG, L2.ixN, L2.atI, pickIO, putIO, mkAr, xCall, xCallE, xCallT, bVl, bPl, bNil, kill, iSeq, iR1, iR2, iEn, iZp, sFor, fits, i62_eq, i64_eq, ltI_eq, fzs_ints, noOwns_ints, noFzs_ints, okD_ints, ints_map, fEq, fNe, okI, okL, eqD_int, eqD_ints, eqD_nil, h1.1, h1.2, hx.1, hx2, hx3, List.map_set])
  rw [List.foldl_map] at h
  exact h.1
end Wk30
namespace Wk30
open PySem PySem.Spec VL
def zeros (n : Nat) : List Int := List.replicate n 0
def led (t num : List Int) : List Int := ledF num ((upto t.length).zip t) (zeros t.length)
theorem colouring_led_ok (t num : List Int) (hl : num.length = t.length) (hb : t.length ≤ 500) (hn : ∀ x ∈ num, 0 ≤ x ∧ x < t.length) : fr_colouring_led [.lst false (t.map D.int), .lst false (num.map D.int)] = .ok (.lst true ((led t num).map D.int)) [] := by
  have h1 := lcM_ints (g := gNm 3) (me := xC (.int 0)) (own := [3]) (s := [some (.lst false (t.map D.int)), some (.lst false (num.map D.int)), none, none, none]) (ns := t) (ks := zeros t.length) (e := false) (fun _ => 0) (by rw [List.map_const']; rfl) (fun k hk => ⟨[some (.lst false (t.map D.int)), some (.lst false (num.map D.int)), none, some (.int k), none], [some (.lst false (t.map D.int)), some (.lst false (num.map D.int)), none, some (.int k), none], true, rfl, rfl, rfl⟩) (by omega)
  obtain ⟨es, hes⟩ : ∃ es, es = (upto t.length).zip t := ⟨_, rfl⟩
  have hm : ∀ q ∈ es, 0 ≤ q.1 ∧ q.1 < num.length := fun q hq => by
    rw [hes] at hq
    have := enum_mem hq
    rw [hl]
    exact ⟨this.1, this.2.1⟩
  have hen : enumD (t.map D.int) = es.map prD := by rw [enumD_ints, hes]; rfl
  have h2 := led_loop num (.lst false (t.map D.int)) es hm t.length hn (zeros t.length) (by simp [zeros])
  have e : led t num = ledF num es (zeros t.length) := by rw [hes]; rfl
  rw [e]
  generalize ledF num es (zeros t.length) = r at h2
  generalize zeros t.length = z at h1 h2
  simp [fr_colouring_led, m_colouring_led, fnM, sSeq, sIf, sAsg, sRet, sExpr, sNil, sPar, puts, tst, eOp, aCons, aNil, xN, xC, xMv, xS, xNot, xAnd, xOr, xIf, xInt, xL, tAndM, tOrM, tNotM, tTrue, fz, fzs, noOwn, noOwns, noFz, noFzs, fIx, fCmp, fI2, fI2c, fAdd, fSub, fMul, fMod, fDiv, fPow, fNeg, fAbs, fMax, fMin, fInt, fLen, fTup, fLst, fDivmod, fInts, cMul, cDiv, cPow, gTp, gsCons, gsNil, gSb, gNm, pNm, pIx, slP, getP, setP, mSet, mAppend, mPopAt, ownL, isLst, eMu, eMuG, L2.ixN, L2.atI, pickIO, putIO, mkAr, xCall, xCallE, xCallT, bVl, bPl, bNil, kill, iSeq, iR1, iR2, iEn, iZp, sFor, fits, i62_eq, i64_eq, ltI_eq, fzs_ints, noOwns_ints, noFzs_ints, okD_ints, ints_map, fEq, fNe, okI, okL, eqD_int, eqD_ints, eqD_nil, xLc, h1, hen, h2]
end Wk30
namespace Wk30
open PySem PySem.Spec VL
def clD (l : List Int) : D := .lst true (l.map D.int)
def putC (fs : List (List Int)) (p : Int × Int) : List (List Int) := fs.set p.2.toNat (fs.getD p.2.toNat [] ++ [p.1])
theorem cells_loop (A : D) (es : List (Int × Int)) (m : Nat) (he : ∀ q ∈ es, 0 ≤ q.2 ∧ q.2 < m) : ∀ (fs : List (List Int)), fs.length = m → (∀ l ∈ fs, l.length + es.length ≤ 1000) →
    loopM (gTp 2 (gsCons (gNm 3) (gsCons (gNm 2) gsNil))) (sExpr (eMu 1 (pIx 1 (pNm 1) (xN 2)) (aCons (xN 3) aNil) mAppend)) [2, 3] (es.map prD) [some A, some (.lst true (fs.map clD)), none, none] =
    .nx [some A, some (.lst true ((es.foldl putC fs).map clD)), none, none] := by
  induction es with
  | nil => intro fs _ _; simp [loopM]
  | cons q es ih =>
    intro fs hl hb
    have h1 := he q (by simp)
    have hlt : q.2.toNat < fs.length := by omega
    have hlt2 : q.2 < (fs.length : Int) := by omega
    have hlen : fs[q.2.toNat].length ≤ 16777215 := by
      have := hb _ (List.getElem_mem hlt)
      omega
    have hg : fs.getD q.2.toNat [] = fs[q.2.toNat] := by
      rw [List.getD_eq_getElem?_getD, List.getElem?_eq_getElem hlt]; rfl
    have e := ih (fun r hr => he r (by simp [hr])) (putC fs q) (by simp [putC, hl]) (fun l hl' => by
      unfold putC at hl'
      rcases List.mem_or_eq_of_mem_set hl' with z | z
      · have := hb l z
        simp only [List.length_cons] at this
        omega
      · rw [z, hg, List.length_append, List.length_singleton]
        have := hb _ (List.getElem_mem hlt)
        simp only [List.length_cons] at this
        omega)
    rw [List.map_cons, List.foldl_cons]
    unfold putC at e ⊢
    rw [hg] at e ⊢
    simp [loopM, fnM, sSeq, sIf, sAsg, sRet, sExpr, sNil, sPar, puts, tst, eOp, aCons, aNil, xN, xC, xMv, xS, xNot, xAnd, xOr, xIf, xInt, xL, tAndM, tOrM, tNotM, tTrue, fz, fzs, noOwn, noOwns, noFz, noFzs, fIx, fCmp, fI2, fI2c, fAdd, fSub, fMul, fMod, fDiv, fPow, fNeg, fAbs, fMax, fMin, fInt, fLen, fTup, fLst, fDivmod, fInts, cMul, cDiv, cPow, gTp, gsCons, gsNil, gSb, gNm, pNm, pIx, slP, getP, setP, mSet, mAppend, mPopAt, ownL, isLst, eMu, eMuG, L2.ixN, L2.atI, pickIO, putIO, mkAr, xCall, xCallE, xCallT, bVl, bPl, bNil, kill, iSeq, iR1, iR2, iEn, iZp, sFor, fits, i62_eq, i64_eq, ltI_eq, fzs_ints, noOwns_ints, noFzs_ints, okD_ints, ints_map, fEq, fNe, okI, okL, eqD_int, eqD_ints, eqD_nil, prD, clD, h1.1, hlt, hlt2, hlen, List.map_set] at e ⊢
    exact e
end Wk30
namespace Wk30
open PySem PySem.Spec VL
def many (t : List Int) : Nat := (maxI (-1 :: t) + 1).toNat
def cells (t : List Int) : List (List Int) := ((upto t.length).zip t).foldl putC (List.replicate (many t) [])
theorem cells_of_ok (t : List Int) (hl : t.length ≤ 500) (hc : ∀ c ∈ t, 0 ≤ c ∧ c < 1000) : fr_cells_of [.lst false (t.map D.int)] = .ok (.lst true ((cells t).map clD)) [] := by
  obtain ⟨g1, g2⟩ := maxI_spec (-1 :: t) (by simp)
  have hm0 := g2 (-1) (by simp)
  have hm1 : maxI (-1 :: t) < 1000 := by
    rcases List.mem_cons.mp g1 with e | e
    · omega
    · exact (hc _ e).2
  have c1 : -4611686018427387904 ≤ maxI (-1 :: t) + 1 ∧ maxI (-1 :: t) + 1 < 4611686018427387904 := by omega
  obtain ⟨m, hm⟩ : ∃ m, m = many t := ⟨_, rfl⟩
  have hm2 : (maxI (-1 :: t) + 1).toNat = m := by rw [hm]; rfl
  have h1 := lcM_map (g := gNm 2) (me := eOp aNil fLst) (own := [2]) (s := [some (.lst false (t.map D.int)), none, none, none]) (f := fun _ => clD []) (items := rngD 0 m) (acc := []) (e := false) (fun d hd => ⟨[some (.lst false (t.map D.int)), none, some d, none], [some (.lst false (t.map D.int)), none, some d, none], true, rfl, rfl, rfl, rfl⟩) (by simp [rngD]; omega)
  have h2 : (rngD 0 m).map (fun _ => clD []) = (List.replicate m ([] : List Int)).map clD := by
    rw [List.map_const', List.map_replicate]
    congr 1
    simp [rngD]
  rw [h2] at h1
  obtain ⟨es, hes⟩ : ∃ es, es = (upto t.length).zip t := ⟨_, rfl⟩
  have hel : es.length ≤ 500 := by rw [hes, List.length_zip]; omega
  have hme : ∀ q ∈ es, 0 ≤ q.2 ∧ q.2 < m := fun q hq => by
    rw [hes] at hq
    have hq2 := (List.of_mem_zip (a := q.1) (b := q.2) hq).2
    have := g2 q.2 (by simp [hq2])
    have := hc _ hq2
    omega
  have hen : enumD (t.map D.int) = es.map prD := by rw [enumD_ints, hes]; rfl
  have h3 := cells_loop (.lst false (t.map D.int)) es m hme (List.replicate m []) (by simp) (fun l hl => by
    have := List.eq_of_mem_replicate hl
    rw [this]; simp; omega)
  have e : cells t = es.foldl putC (List.replicate m []) := by rw [hes, hm]; rfl
  rw [e]
  generalize es.foldl putC (List.replicate m []) = r at h3
  generalize (List.replicate m ([] : List Int)).map clD = z at h1 h3
  simp at h1
  simp [fr_cells_of, m_cells_of, fnM, sSeq, sIf, sAsg, sRet, sExpr, sNil, sPar, puts, tst, eOp, aCons, aNil, xN, xC, xMv, xS, xNot, xAnd, xOr, xIf, xInt, xL, tAndM, tOrM, tNotM, tTrue, fz, fzs, noOwn, noOwns, noFz, noFzs, fIx, fCmp, fI2, fI2c, fAdd, fSub, fMul, fMod, fDiv, fPow, fNeg, fAbs, fMax, fMin, fInt, fLen, fTup, fLst, fDivmod, fInts, cMul, cDiv, cPow, gTp, gsCons, gsNil, gSb, gNm, pNm, pIx, slP, getP, setP, mSet, mAppend, mPopAt, ownL, isLst, eMu, eMuG, L2.ixN, L2.atI, pickIO, putIO, mkAr, xCall, xCallE, xCallT, bVl, bPl, bNil, kill, iSeq, iR1, iR2, iEn, iZp, sFor, fits, i62_eq, i64_eq, ltI_eq, fzs_ints, noOwns_ints, noFzs_ints, okD_ints, ints_map, fEq, fNe, okI, okL, eqD_int, eqD_ints, eqD_nil, colour_many_ok t (by omega), c1, hm2, xLc, h1, hen, h3]
end Wk30
namespace Wk30
open PySem PySem.Spec VL
theorem is_discrete_ok (t : List Int) (hl : t.length ≤ 500) : fr_is_discrete [.lst false (t.map D.int)] = .ok (.bl (decide (maxI (-1 :: t) + 1 = t.length))) [] := by
  simp [fr_is_discrete, m_is_discrete, fnM, sSeq, sIf, sAsg, sRet, sExpr, sNil, sPar, puts, tst, eOp, aCons, aNil, xN, xC, xMv, xS, xNot, xAnd, xOr, xIf, xInt, xL, tAndM, tOrM, tNotM, tTrue, fz, fzs, noOwn, noOwns, noFz, noFzs, fIx, fCmp, fI2, fI2c, fAdd, fSub, fMul, fMod, fDiv, fPow, fNeg, fAbs, fMax, fMin, fInt, fLen, fTup, fLst, fDivmod, fInts, cMul, cDiv, cPow, gTp, gsCons, gsNil, gSb, gNm, pNm, pIx, slP, getP, setP, mSet, mAppend, mPopAt, ownL, isLst, eMu, eMuG, L2.ixN, L2.atI, pickIO, putIO, mkAr, xCall, xCallE, xCallT, bVl, bPl, bNil, kill, iSeq, iR1, iR2, iEn, iZp, sFor, fits, i62_eq, i64_eq, ltI_eq, fzs_ints, noOwns_ints, noFzs_ints, okD_ints, ints_map, fEq, fNe, okI, okL, eqD_int, eqD_ints, eqD_nil, colour_many_ok t (by omega)]
theorem fzs_cl : ∀ fs : List (List Int), fzs (fs.map clD) = fs.map fun l => D.lst false (l.map D.int)
  | [] => rfl
  | l :: fs => by simp [fzs, fz, clD, fzs_ints, fzs_cl fs]
theorem trace_of_ok (t : List Int) (hl : t.length ≤ 500) (hc : ∀ c ∈ t, 0 ≤ c ∧ c < 1000) (hm : (cells t).length ≤ 1000) : fr_trace_of [.lst false (t.map D.int)] = .ok (.lst true (((cells t).map fun l => (l.length : Int)).map D.int)) [] := by
  have h0 := cells_of_ok t hl hc
  generalize cells t = fs at h0 hm
  have h1 := lcM_map (g := gNm 1) (me := e1 (xN 1) fLen) (own := [1]) (s := [some (.lst false (t.map D.int)), none]) (f := fun d => match d with
    | .lst _ xs => .int xs.length
    | d => d) (items := fs.map fun l => D.lst false (l.map D.int)) (acc := []) (e := false) (fun d hd => by
      obtain ⟨l, hl, rfl⟩ := List.mem_map.mp hd
      refine ⟨[some (.lst false (t.map D.int)), some (.lst false (l.map D.int))], [some (.lst false (t.map D.int)), some (.lst false (l.map D.int))], true, rfl, ?_, rfl, rfl⟩
      simp [fnM, sSeq, sIf, sAsg, sRet, sExpr, sNil, sPar, puts, tst, eOp, aCons, aNil, xN, xC, xMv, xS, xNot, xAnd, xOr, xIf, xInt, xL, tAndM, tOrM, tNotM, tTrue, fz, fzs, noOwn, noOwns, noFz, noFzs, fIx, fCmp, fI2, fI2c, fAdd, fSub, fMul, fMod, fDiv, fPow, fNeg, fAbs, fMax, fMin, fInt, fLen, fTup, fLst, fDivmod, fInts, cMul, cDiv, cPow, gTp, gsCons, gsNil, gSb, gNm, pNm, pIx, slP, getP, setP, mSet, mAppend, mPopAt, ownL, isLst, eMu, eMuG, L2.ixN, L2.atI, pickIO, putIO, mkAr, xCall, xCallE, xCallT, bVl, bPl, bNil, kill, iSeq, iR1, iR2, iEn, iZp, sFor, fits, i62_eq, i64_eq, ltI_eq, fzs_ints, noOwns_ints, noFzs_ints, okD_ints, ints_map, fEq, fNe, okI, okL, eqD_int, eqD_ints, eqD_nil]) (by simp; omega)
  have h2 := fzs_cl fs
  have h3 : ((fs.map fun l => D.lst false (l.map D.int)).map fun d => match d with
    | .lst _ xs => .int xs.length
    | d => d) = ((fs.map fun l => (l.length : Int)).map D.int) := by simp [Function.comp_def]
  rw [h3] at h1
  have h4 : noFzs (fs.map clD) = true := by
    rw [noFzs_all, List.all_map]
    exact List.all_eq_true.mpr fun l _ => by simp [clD, noFz, noFzs_ints]
  generalize (fs.map fun l => (l.length : Int)).map D.int = z at h1
  generalize (fs.map fun l => D.lst false (l.map D.int)) = y at h1 h2
  simp at h1
  simp [fr_trace_of, m_trace_of, fnM, sSeq, sIf, sAsg, sRet, sExpr, sNil, sPar, puts, tst, eOp, aCons, aNil, xN, xC, xMv, xS, xNot, xAnd, xOr, xIf, xInt, xL, tAndM, tOrM, tNotM, tTrue, fz, fzs, noOwn, noOwns, noFz, noFzs, fIx, fCmp, fI2, fI2c, fAdd, fSub, fMul, fMod, fDiv, fPow, fNeg, fAbs, fMax, fMin, fInt, fLen, fTup, fLst, fDivmod, fInts, cMul, cDiv, cPow, gTp, gsCons, gsNil, gSb, gNm, pNm, pIx, slP, getP, setP, mSet, mAppend, mPopAt, ownL, isLst, eMu, eMuG, L2.ixN, L2.atI, pickIO, putIO, mkAr, xCall, xCallE, xCallT, bVl, bPl, bNil, kill, iSeq, iR1, iR2, iEn, iZp, sFor, fits, i62_eq, i64_eq, ltI_eq, fzs_ints, noOwns_ints, noFzs_ints, okD_ints, ints_map, fEq, fNe, okI, okL, eqD_int, eqD_ints, eqD_nil, h0, xLc, h2, h1, h4]
end Wk30
namespace Wk30
open PySem PySem.Spec VL
theorem gt_upto {n : Nat} {i : Int} (h0 : 0 ≤ i) (h1 : i < n) : gt (upto n) i = i := by
  rw [gt_at h0 (by rw [upto_length]; exact h1)]
  simp [upto]
  omega
theorem ledF_length (num : List Int) : ∀ (es : List (Int × Int)) (acc : List Int), (ledF num es acc).length = acc.length
  | [], acc => rfl
  | p :: es, acc => by
    show (ledF num es (acc.set _ _)).length = _
    rw [ledF_length num es, List.length_set]
theorem led_id (t : List Int) : led t (upto t.length) = t := by
  have key : ∀ (es : List (Int × Int)) (acc : List Int), (∀ p ∈ es, 0 ≤ p.1 ∧ p.1 < t.length ∧ t[p.1.toNat]? = some p.2) → acc.length = t.length → ∀ i : Nat, i < t.length →
      (acc[i]? = t[i]? ∨ ∃ p ∈ es, p.1 = (i : Int)) → (ledF (upto t.length) es acc)[i]? = t[i]? := by
    intro es
    induction es with
    | nil =>
      intro acc _ _ i _ h
      rcases h with h | ⟨p, hp, _⟩
      · exact h
      · cases hp
    | cons p es ih =>
      intro acc hes ha i hi h
      obtain ⟨p0, p1, p2⟩ := hes p (by simp)
      show (ledF (upto t.length) es (acc.set (gt (upto t.length) p.1).toNat p.2))[i]? = _
      rw [gt_upto p0 p1]
      refine ih _ (fun q hq => hes q (by simp [hq])) (by rw [List.length_set]; exact ha) i hi ?_
      by_cases q : p.1.toNat = i
      · left
        subst q
        rw [List.getElem?_set_self (by omega), p2]
      · rw [List.getElem?_set_ne q]
        rcases h with h | ⟨r, hr, e⟩
        · exact .inl h
        · rcases List.mem_cons.mp hr with rfl | hr
          · exact absurd (by omega) q
          · exact .inr ⟨r, hr, e⟩
  apply List.ext_getElem?
  intro i
  by_cases hi : i < t.length
  · refine key _ _ (fun p hp => enum_mem hp) (by simp [zeros]) i hi (.inr ⟨((i : Int), t[i]), ?_, rfl⟩)
    refine List.mem_iff_getElem.mpr ⟨i, by rw [List.length_zip, upto_length, Nat.min_self]; exact hi, ?_⟩
    rw [List.getElem_zip]
    simp [upto]
  · have h1 : (led t (upto t.length)).length = t.length := by
      unfold led
      rw [ledF_length]
      simp [zeros]
    rw [List.getElem?_eq_none (by omega), List.getElem?_eq_none (by omega)]
end Wk30
namespace Wk30
open PySem PySem.Spec VL
def posn (es : List (Int × Int)) (c : Int) : List Int := (es.filter fun p => decide (p.2 = c)).map (·.1)
theorem posn_lc (t : List Int) (fd : D) (es : List (Int × Int)) (hes : enumD (t.map D.int) = es.map prD) (hl : es.length ≤ 1000) (c : Int) :
    lcM (gTp 2 (gsCons (gNm 4) (gsCons (gNm 5) gsNil))) (tst (e2 (xN 5) (xN 2) fEq)) (xN 4) [4, 5] (es.map prD) [] [some (.lst false (t.map D.int)), some fd, some (.int c), none, none, none] false =
    .ok ((posn es c).map D.int) [some (.lst false (t.map D.int)), some fd, some (.int c), none, none, none] false := by
  have h := lcM_filt (g := gTp 2 (gsCons (gNm 4) (gsCons (gNm 5) gsNil))) (mt := tst (e2 (xN 5) (xN 2) fEq)) (me := xN 4) (own := [4, 5]) (s := [some (.lst false (t.map D.int)), some fd, some (.int c), none, none, none]) (f := fun d => .int (unD d).1) (p := fun d => decide ((unD d).2 = c)) (items := es.map prD) (acc := []) (e := false) (fun d hd => by
    obtain ⟨q, hq, rfl⟩ := List.mem_map.mp hd
    refine ⟨[some (.lst false (t.map D.int)), some fd, some (.int c), none, some (.int q.1), some (.int q.2)], [some (.lst false (t.map D.int)), some fd, some (.int c), none, some (.int q.1), some (.int q.2)], [some (.lst false (t.map D.int)), some fd, some (.int c), none, some (.int q.1), some (.int q.2)], true, rfl, ?_, rfl, fun _ => ⟨rfl, rfl, rfl⟩⟩
    simp [fnM, sSeq, sIf, sAsg, sRet, sExpr, sNil, sPar, puts, tst, eOp, aCons, aNil, xN, xC, xMv, xS, xNot, xAnd, xOr, xIf, xInt, xL, tAndM, tOrM, tNotM, tTrue, fz, fzs, noOwn, noOwns, noFz, noFzs, fIx, fCmp, fI2, fI2c, fAdd, fSub, fMul, fMod, fDiv, fPow, fNeg, fAbs, fMax, fMin, fInt, fLen, fTup, fLst, fDivmod, fInts, cMul, cDiv, cPow, gTp, gsCons, gsNil, gSb, gNm, pNm, pIx, slP, getP, setP, mSet, mAppend, mPopAt, ownL, isLst, eMu, eMuG, L2.ixN, L2.atI, pickIO, putIO, mkAr, xCall, xCallE, xCallT, bVl, bPl, bNil, kill, iSeq, iR1, iR2, iEn, iZp, sFor, fits, i62_eq, i64_eq, ltI_eq, fzs_ints, noOwns_ints, noFzs_ints, okD_ints, ints_map, fEq, fNe, okI, okL, eqD_int, eqD_ints, eqD_nil, unD_prD]
    exact decide_eq_decide.mpr Iff.rfl) (by simp; omega)
  rw [h, List.filter_map]
  simp [posn, Function.comp_def, unD_prD]
  congr 1
end Wk30
namespace Wk30
open PySem PySem.Spec VL
def addC (es : List (Int × Int)) (fs : List (List Int)) (c : Int) : List (List Int) := if posn es c = [] then fs else fs ++ [posn es c]
theorem law_cells_ok (t : List Int) (hl : t.length ≤ 500) : fr__law_cells [.lst false (t.map D.int)] = .ok (.lst true (((upto t.length).foldl (addC ((upto t.length).zip t)) []).map clD)) [] := by
  obtain ⟨es, hes⟩ : ∃ es, es = (upto t.length).zip t := ⟨_, rfl⟩
  have hel : es.length ≤ 500 := by rw [hes, List.length_zip]; omega
  have hen : enumD (t.map D.int) = es.map prD := by rw [enumD_ints, hes]; rfl
  rw [← hes]
  have loop : ∀ (cs : List Int) (fs : List (List Int)), fs.length + cs.length ≤ 1000 → loopM (gNm 2) (sSeq (sAsg (xLc (iEn (aCons (xN 0) aNil)) (gTp 2 (gsCons (gNm 4) (gsCons (gNm 5) gsNil))) (tst (e2 (xN 5) (xN 2) fEq)) (xN 4) [4, 5]) (gNm 3))
    (sIf (tst (e2 (xN 3) (eOp aNil fLst) fNe)) (sExpr (eMu 1 (pNm 1) (aCons (xMv 3) aNil) mAppend)) sNil)) [2, 3, 4, 5] (cs.map D.int) [some (.lst false (t.map D.int)), some (.lst true (fs.map clD)), none, none, none, none] =
      .nx [some (.lst false (t.map D.int)), some (.lst true ((cs.foldl (addC es) fs).map clD)), none, none, none, none] := by
    intro cs
    induction cs with
    | nil => intro fs _; simp [loopM]
    | cons c cs ih =>
      intro fs hf
      have hp := posn_lc t (.lst true (fs.map clD)) es hen (by omega) c
      have hf2 : fs.length ≤ 16777215 := by omega
      rw [List.map_cons, List.foldl_cons]
      obtain ⟨u, hu⟩ : ∃ u, u = posn es c := ⟨_, rfl⟩
      have q := eqD_nil false true u
      rw [← hu] at hp
      by_cases h : u = []
      · have e := ih fs (by simp only [List.length_cons] at hf; omega)
        have ha : addC es fs c = fs := by unfold addC; rw [← hu, if_pos h]
        rw [ha]
        subst h
        simp [loopM, fnM, sSeq, sIf, sAsg, sRet, sExpr, sNil, sPar, puts, tst, eOp, aCons, aNil, xN, xC, xMv, xS, xNot, xAnd, xOr, xIf, xInt, xL, tAndM, tOrM, tNotM, tTrue, fz, fzs, noOwn, noOwns, noFz, noFzs, fIx, fCmp, fI2, fI2c, fAdd, fSub, fMul, fMod, fDiv, fPow, fNeg, fAbs, fMax, fMin, fInt, fLen, fTup, fLst, fDivmod, fInts, cMul, cDiv, cPow, gTp, gsCons, gsNil, gSb, gNm, pNm, pIx, slP, getP, setP, mSet, mAppend, mPopAt, ownL, isLst, eMu, eMuG, L2.ixN, L2.atI, pickIO, putIO, mkAr, xCall, xCallE, xCallT, bVl, bPl, bNil, kill, iSeq, iR1, iR2, iEn, iZp, sFor, fits, i62_eq, i64_eq, ltI_eq, fzs_ints, noOwns_ints, noFzs_ints, okD_ints, ints_map, fEq, fNe, okI, okL, eqD_int, eqD_ints, eqD_nil, xLc, hen, hp, okD, show eqD (.lst false []) (.lst true []) = true from rfl] at e ⊢
        exact e
      · have e := ih (fs ++ [u]) (by simp only [List.length_cons, List.length_append, List.length_nil] at hf ⊢; omega)
        have ha : addC es fs c = fs ++ [u] := by unfold addC; rw [← hu, if_neg h]
        rw [ha]
        simp [h] at q
        simp [loopM, fnM, sSeq, sIf, sAsg, sRet, sExpr, sNil, sPar, puts, tst, eOp, aCons, aNil, xN, xC, xMv, xS, xNot, xAnd, xOr, xIf, xInt, xL, tAndM, tOrM, tNotM, tTrue, fz, fzs, noOwn, noOwns, noFz, noFzs, fIx, fCmp, fI2, fI2c, fAdd, fSub, fMul, fMod, fDiv, fPow, fNeg, fAbs, fMax, fMin, fInt, fLen, fTup, fLst, fDivmod, fInts, cMul, cDiv, cPow, gTp, gsCons, gsNil, gSb, gNm, pNm, pIx, slP, getP, setP, mSet, mAppend, mPopAt, ownL, isLst, eMu, eMuG, L2.ixN, L2.atI, pickIO, putIO, mkAr, xCall, xCallE, xCallT, bVl, bPl, bNil, kill, iSeq, iR1, iR2, iEn, iZp, sFor, fits, i62_eq, i64_eq, ltI_eq, fzs_ints, noOwns_ints, noFzs_ints, okD_ints, ints_map, fEq, fNe, okI, okL, eqD_int, eqD_ints, eqD_nil, xLc, hen, hp, okD, q, h, hf2, clD] at e ⊢
        exact e
  have h := loop (upto t.length) [] (by simp [upto_length]; omega)
  have hr := rngD_upto t.length
  have c1 : -4611686018427387904 ≤ (t.length : Int) ∧ (t.length : Int) < 4611686018427387904 := by omega
  generalize (upto t.length).foldl (addC es) [] = r at h
  simp at h
  simp [fr__law_cells, m__law_cells, fnM, sSeq, sIf, sAsg, sRet, sExpr, sNil, sPar, puts, tst, eOp, aCons, aNil, xN, xC, xMv, xS, xNot, xAnd, xOr, xIf, xInt, xL, tAndM, tOrM, tNotM, tTrue, fz, fzs, noOwn, noOwns, noFz, noFzs, fIx, fCmp, fI2, fI2c, fAdd, fSub, fMul, fMod, fDiv, fPow, fNeg, fAbs, fMax, fMin, fInt, fLen, fTup, fLst, fDivmod, fInts, cMul, cDiv, cPow, gTp, gsCons, gsNil, gSb, gNm, pNm, pIx, slP, getP, setP, mSet, mAppend, mPopAt, ownL, isLst, eMu, eMuG, L2.ixN, L2.atI, pickIO, putIO, mkAr, xCall, xCallE, xCallT, bVl, bPl, bNil, kill, iSeq, iR1, iR2, iEn, iZp, sFor, fits, i62_eq, i64_eq, ltI_eq, fzs_ints, noOwns_ints, noFzs_ints, okD_ints, ints_map, fEq, fNe, okI, okL, eqD_int, eqD_ints, eqD_nil, c1, hr, h]
end Wk30
namespace Wk30
open PySem PySem.Spec VL
theorem putC_length : ∀ (es : List (Int × Int)) (fs : List (List Int)), (es.foldl putC fs).length = fs.length
  | [], fs => rfl
  | p :: es, fs => by
    rw [List.foldl_cons, putC_length es]
    simp [putC]
theorem putC_get : ∀ (es : List (Int × Int)) (fs : List (List Int)), (∀ p ∈ es, 0 ≤ p.2 ∧ p.2 < fs.length) → ∀ (i : Nat) (hi : i < fs.length), (es.foldl putC fs)[i]? = some (fs[i] ++ posn es i)
  | [], fs, _, i, hi => by simp [posn, hi]
  | p :: es, fs, h, i, hi => by
    obtain ⟨h0, h1⟩ := h p (by simp)
    have hl : (putC fs p).length = fs.length := by simp [putC]
    rw [List.foldl_cons, putC_get es (putC fs p) (fun q hq => by rw [hl]; exact h q (by simp [hq])) i (by omega)]
    have hlt : p.2.toNat < fs.length := by omega
    have hg : fs.getD p.2.toNat [] = fs[p.2.toNat] := by
      rw [List.getD_eq_getElem?_getD, List.getElem?_eq_getElem hlt]; rfl
    by_cases q : p.2 = (i : Int)
    · have e : p.2.toNat = i := by omega
      have hp : posn (p :: es) i = p.1 :: posn es i := by simp [posn, q]
      rw [hp]
      simp only [putC, hg, e, List.getElem_set_self, List.append_assoc, List.singleton_append]
      subst e
      rw [hg]
    · have e : p.2.toNat ≠ i := by omega
      have hp : posn (p :: es) i = posn es i := by simp [posn, q]
      rw [hp]
      simp only [putC, List.getElem_set_ne e]
end Wk30
namespace Wk30
open PySem PySem.Spec VL
theorem col_lt {t : List Int} (h : Col t) : ∀ c ∈ t, 0 ≤ c ∧ c < t.length := fun c hc => by
  obtain ⟨m, h1, h2⟩ := h
  have hp := sortI_perm t
  have hs := sortI_sorted t
  have ev : Even (sortI t) := fill_even hs (fun n hn => (h1 n (hp.mem_iff.mp hn)).1) fun x hx c h0 hcx => hp.mem_iff.mpr (h2 c h0 (by have := (h1 x (hp.mem_iff.mp hx)).2; omega))
  obtain ⟨j, hj, e⟩ := List.mem_iff_getElem.mp (hp.mem_iff.mpr hc)
  have := even_fill hs ev j hj
  have hl := hp.length_eq
  omega
theorem addC_fold (es : List (Int × Int)) : ∀ (cs : List Int) (fs : List (List Int)), cs.foldl (addC es) fs = fs ++ (cs.map (posn es)).filter fun l => decide (l ≠ [])
  | [], fs => by simp
  | c :: cs, fs => by
    rw [List.foldl_cons, addC_fold es cs]
    by_cases h : posn es c = []
    · simp [addC, h]
    · simp [addC, h]
end Wk30
namespace Wk30
open PySem PySem.Spec VL
theorem many_col {t : List Int} (h : Col t) : (∀ c ∈ t, c < many t) ∧ (∀ j : Int, 0 ≤ j → j < many t → j ∈ t) ∧ many t ≤ t.length := by
  obtain ⟨m, h1, h2⟩ := h
  have hlt := col_lt ⟨m, h1, h2⟩
  obtain ⟨g1, g2⟩ := maxI_spec (-1 :: t) (by simp)
  have hm0 := g2 (-1) (by simp)
  have hM : (many t : Int) = maxI (-1 :: t) + 1 := by unfold many; omega
  refine ⟨fun c hc => by have := g2 c (by simp [hc]); omega, fun j h0 hj => ?_, ?_⟩
  · rcases List.mem_cons.mp g1 with e | e
    · omega
    · exact h2 j h0 (by have := (h1 _ e).2; omega)
  · rcases List.mem_cons.mp g1 with e | e
    · omega
    · have := (hlt _ e).2; omega
theorem posn_ne {t : List Int} {c : Int} : posn ((upto t.length).zip t) c ≠ [] ↔ c ∈ t := by
  unfold posn
  rw [Ne, List.map_eq_nil_iff, List.filter_eq_nil_iff]
  constructor
  · intro h
    refine Classical.byContradiction fun z => h fun p hp => ?_
    have := (List.of_mem_zip (a := p.1) (b := p.2) hp).2
    simp only [decide_eq_true_iff]
    intro e
    exact z (e ▸ this)
  · intro hc h
    obtain ⟨i, hi, e⟩ := List.mem_iff_getElem.mp hc
    have hz : ((i : Int), t[i]) ∈ (upto t.length).zip t := List.mem_iff_getElem.mpr ⟨i, by rw [List.length_zip, upto_length, Nat.min_self]; exact hi, by rw [List.getElem_zip]; simp [upto]⟩
    have := h _ hz
    simp [e] at this
end Wk30
namespace Wk30
open PySem PySem.Spec VL
theorem upto_split {m n : Nat} (h : m ≤ n) : upto n = upto m ++ (List.range (n - m)).map fun i => ((m + i : Nat) : Int) := by
  unfold upto
  obtain ⟨k, rfl⟩ := Nat.exists_eq_add_of_le h
  rw [List.range_add, List.map_append, List.map_map, Nat.add_sub_cancel_left]
  rfl
theorem cells_eq {t : List Int} (h : Col t) : (upto t.length).foldl (addC ((upto t.length).zip t)) [] = cells t := by
  obtain ⟨h1, h2, h3⟩ := many_col h
  have hlt := col_lt h
  have hz : ∀ p ∈ (upto t.length).zip t, 0 ≤ p.2 ∧ p.2 < (List.replicate (many t) ([] : List Int)).length := fun p hp => by
    have hp2 := (List.of_mem_zip (a := p.1) (b := p.2) hp).2
    rw [List.length_replicate]
    exact ⟨(hlt _ hp2).1, h1 _ hp2⟩
  generalize hes : (upto t.length).zip t = es at hz ⊢
  rw [addC_fold, List.nil_append, upto_split h3, List.map_append, List.filter_append]
  have e1 : ((upto (many t)).map (posn es)).filter (fun l => decide (l ≠ [])) = (upto (many t)).map (posn es) := by
    rw [List.filter_eq_self]
    intro l hl
    obtain ⟨c, hc, rfl⟩ := List.mem_map.mp hl
    have hc := mem_upto.mp hc
    rw [← hes]
    exact decide_eq_true (posn_ne.mpr (h2 c hc.1 hc.2))
  have e2 : ((((List.range (t.length - many t)).map fun i => ((many t + i : Nat) : Int))).map (posn es)).filter (fun l => decide (l ≠ [])) = [] := by
    rw [List.filter_eq_nil_iff]
    intro l hl
    obtain ⟨c, hc, rfl⟩ := List.mem_map.mp hl
    obtain ⟨i, _, rfl⟩ := List.mem_map.mp hc
    rw [← hes]
    simp only [decide_eq_true_iff]
    intro z
    have := h1 _ (posn_ne.mp z)
    omega
  rw [e1, e2, List.append_nil]
  unfold cells
  rw [hes]
  apply List.ext_getElem?
  intro i
  by_cases hi : i < many t
  · rw [putC_get es _ hz i (by simpa using hi)]
    simp [upto, hi]
  · rw [List.getElem?_eq_none (by simp [upto_length]; omega), List.getElem?_eq_none (by rw [putC_length]; simp; omega)]
end Wk30
namespace Wk30
open PySem PySem.Spec VL
/-! ### a thing near a colouring -/
structure Gx (x : D) : Prop where
  pl : ∀ k, 2 ≤ k → Pl k 106 x
  wl : ∀ xs, x ≠ .wl xs
  len : ∀ o xs, x = .lst o xs → xs.length ≤ 1000
structure Gd (x : D) : Prop where
  pl : Pl 60 10000 x
  wl : ∀ xs, x ≠ .wl xs
  len : ∀ o xs, x = .lst o xs → xs.length ≤ 1000
theorem Gx.gd {x : D} (h : Gx x) : Gd x := ⟨(h.pl 60 (by omega)).mono (by omega), h.wl, h.len⟩
theorem gd_list {o : Bool} {xs : List D} (h : ∀ x ∈ xs, Gx x) (hl : xs.length ≤ 60) : Gd (.lst o xs) := by
  refine ⟨?_, by simp, fun o' ys e => by cases e; omega⟩
  show Pl (59 + 1) 10000 (.lst o xs)
  simp only [Pl]
  exact ⟨106, fun x hx => (h x hx).pl 59 (by omega), by omega⟩
theorem gd_tup {xs : List D} (h : ∀ x ∈ xs, Gx x) (hl : xs.length ≤ 60) : Gd (.tup xs) := by
  refine ⟨?_, by simp, by simp⟩
  show Pl (59 + 1) 10000 (.tup xs)
  simp only [Pl]
  exact ⟨106, fun x hx => (h x hx).pl 59 (by omega), by omega⟩
theorem gx_int {i : Int} (h : i.natAbs < 10 ^ 100) : Gx (.int i) :=
  ⟨fun k _ => by cases k <;> exact ⟨h, by omega⟩, by simp, by simp⟩
theorem gx_bl (b : Bool) : Gx (.bl b) := ⟨fun k _ => by cases k <;> (simp only [Pl]; omega), by simp, by simp⟩
theorem gx_non : Gx .non := ⟨fun k _ => by cases k <;> (simp only [Pl]; omega), by simp, by simp⟩
theorem gx_zero : Gx (.str "0") := ⟨fun k _ => by
  have h : (PyData.canLay0 (.str "0") = true ∧ PyData.strOk (reprText "0") = true) ∧ (reprText "0").length ≤ 106 := by decide +kernel
  cases k <;> exact h, by simp, by simp⟩
theorem gx_tup : Gx (.tup [.int 0]) := ⟨fun k h => by
  obtain ⟨j, rfl⟩ : ∃ j, k = j + 1 := ⟨k - 1, by omega⟩
  simp only [Pl]
  refine ⟨101, ?_, by simp⟩
  intro x hx
  simp at hx
  subst hx
  cases j <;> exact ⟨by decide, Nat.le_refl _⟩, by simp, by simp⟩
theorem gx_lst (o : Bool) : Gx (.lst o [.int 0]) := ⟨fun k h => by
  obtain ⟨j, rfl⟩ : ∃ j, k = j + 1 := ⟨k - 1, by omega⟩
  simp only [Pl]
  refine ⟨101, ?_, by simp⟩
  intro x hx
  simp at hx
  subst hx
  cases j <;> exact ⟨by decide, Nat.le_refl _⟩, by simp, fun o' ys e => by cases e; simp⟩
def strange (n : Int) : List D := [.int (-1), .int n, .int (n + 1), .bl true, .bl false, .non, .str "0", .tup [.int 0], .lst true [.int 0], .int (10 ^ 29), .int (-10 ^ 29)]
theorem strange_ok {n : Int} (h0 : 0 ≤ n) (h1 : n ≤ 1000) : ∀ x ∈ strange n, Gx x := by
  intro x hx
  simp only [strange, List.mem_cons, List.not_mem_nil, or_false] at hx
  rcases hx with rfl | rfl | rfl | rfl | rfl | rfl | rfl | rfl | rfl | rfl | rfl
  · exact gx_int (by decide)
  · exact gx_int (by omega)
  · exact gx_int (by omega)
  · exact gx_bl _
  · exact gx_bl _
  · exact gx_non
  · exact gx_zero
  · exact gx_tup
  · exact gx_lst _
  · exact gx_int (by decide +kernel)
  · exact gx_int (by decide +kernel)
theorem at_some {xs : List D} {i : Int} (h0 : 0 ≤ i) (h1 : i < xs.length) : ∃ x, L2.atI xs i = some x ∧ x ∈ xs := by
  have h : i.toNat < xs.length := by omega
  refine ⟨xs[i.toNat], ?_, List.getElem_mem h⟩
  unfold L2.atI L2.ixN
  simp [h0, h1, h]
theorem cut_mem {xs : List D} {lo hi : Option Int} : (cutD xs lo hi).length ≤ xs.length ∧ ∀ x ∈ cutD xs lo hi, x ∈ xs := by
  unfold cutD
  constructor
  · rw [List.length_take, List.length_drop]; omega
  · intro x hx
    exact List.mem_of_mem_drop (List.mem_of_mem_take hx)
def near_tail : MS :=
    (sSeq (sIf (tst (e2 (xN 2) (xC (.int 4)) (fCmp fun i j => decide (i < j)))) (sRet (xMv 3)) sNil)
    (sSeq (sIf (tst (e2 (xN 2) (xC (.int 4)) fEq)) (sRet (e1 (xN 3) fTuple)) sNil)
    (sSeq (sIf (tst (e2 (xN 2) (xC (.int 5)) fEq)) (sRet (e2 (e2 (eOp (aCons (xN 3) (aCons (xC .non) (aCons (xInt (xN 5)) aNil))) fSl) (eOp (aCons (xMv 7) aNil) fLst) fAdd) (eOp (aCons (xN 3) (aCons (xInt (xN 5)) (aCons (xC .non) aNil))) fSl) fAdd)) sNil)
    (sSeq (sIf (tst (e2 (xN 2) (xC (.int 6)) fEq)) (sRet (eOp (aCons (xN 3) (aCons (xC .non) (aCons (xInt (xN 5)) aNil))) fSl)) sNil)
    (sSeq (sIf (tst (e2 (xN 2) (xC (.int 7)) fEq)) (sRet (xLc (iSeq (xMv 3)) (gNm 8) tTrue (e2 (xN 8) (xC (.int 1)) fAdd) [8])) sNil)
    (sSeq (sIf (tst (e2 (xN 2) (xC (.int 8)) fEq)) (sRet (xLc (iSeq (xMv 3)) (gNm 8) tTrue (xIf (tst (e2 (xN 8) (xC (.int 1)) (fCmp fun i j => decide (i < j)))) (xN 8) (e2 (xN 8) (xC (.int 1)) fAdd)) [8])) sNil)
    (sSeq (sIf (tst (e2 (xN 2) (xC (.int 9)) fEq)) (sRet (xMv 7)) sNil)
    (sRet (e2 (e2 (eOp (aCons (xN 3) (aCons (xC .non) (aCons (xInt (xN 5)) aNil))) fSl) (eOp (aCons (xMv 7) aNil) fLst) fAdd) (eOp (aCons (xN 3) (aCons (xInt (e2 (xN 5) (xC (.int 1)) fAdd)) (aCons (xC .non) aNil))) fSl) fAdd)))))))))
end Wk30
namespace Wk30
open PySem PySem.Spec VL
theorem small_ints {t : List Int} (ht : ∀ c ∈ t, 0 ≤ c ∧ c < 1000) : ∀ x ∈ t.map D.int, Gx x := fun x hx => by
  obtain ⟨i, hi, rfl⟩ := List.mem_map.mp hx
  have := ht i hi
  exact gx_int (by omega)
theorem near_tail_ok {p y1 one : D} {x6 : Option D} {t : List Int} {w n sp : Int} (ht : ∀ c ∈ t, 0 ≤ c ∧ c < 1000) (hl : t.length ≤ 28) (hw : 0 ≤ w ∧ w < 12) (ho : Gx one) :
    ∃ d s', near_tail [some p, some y1, some (.int w), some (.lst true (t.map D.int)), some (.int n), some (.int sp), x6, some one, none] = .rt d s' ∧ pickIO [0] s' = some [p] ∧ Gd d := by
  have hT := small_ints ht
  have hTl : (t.map D.int).length ≤ 28 := by simpa using hl
  have cut := fun lo hi => cut_mem (xs := t.map D.int) (lo := lo) (hi := hi)
  have mix : ∀ lo hi lo' hi', ∀ x ∈ cutD (t.map D.int) lo hi ++ [one] ++ cutD (t.map D.int) lo' hi', Gx x := fun lo hi lo' hi' x hx => by
    simp only [List.mem_append, List.mem_singleton] at hx
    rcases hx with (hx | rfl) | hx
    · exact hT x ((cut _ _).2 x hx)
    · exact ho
    · exact hT x ((cut _ _).2 x hx)
  have mixl : ∀ lo hi lo' hi', (cutD (t.map D.int) lo hi ++ [one] ++ cutD (t.map D.int) lo' hi').length ≤ 60 := fun lo hi lo' hi' => by
    have := (cut lo hi).1
    have := (cut lo' hi').1
    simp only [List.length_append, List.length_singleton]
    omega
  have c1 : ∀ lo hi, (cutD (t.map D.int) lo hi).length ≤ 28 := fun lo hi => by have := (cut lo hi).1; omega
  have c2 : ∀ lo hi, (cutD (t.map D.int) lo hi).length + 1 ≤ 16777216 := fun lo hi => by have := c1 lo hi; omega
  have c3 : ∀ lo hi lo' hi', (cutD (t.map D.int) lo hi).length + 1 + (cutD (t.map D.int) lo' hi').length ≤ 16777216 := fun lo hi lo' hi' => by have := c1 lo hi; have := c1 lo' hi'; omega
  have lists : ∀ f : Int → Int, (∀ c, 0 ≤ c ∧ c < 1000 → 0 ≤ f c ∧ f c < 2000) → ∀ ks, ks = t.map f → Gd (.lst true (ks.map D.int)) := fun f hf ks hk => by
    refine gd_list (fun x hx => ?_) (by rw [hk]; simp; omega)
    obtain ⟨i, hi, rfl⟩ := List.mem_map.mp hx
    rw [hk] at hi
    obtain ⟨c, hc, rfl⟩ := List.mem_map.mp hi
    have := hf c (ht c hc)
    exact gx_int (by omega)
  have hz : fzs (t.map D.int) = t.map D.int := fzs_ints t
  have hn : noFzs (t.map D.int) = true := noFzs_ints t
  have hnc : ∀ lo hi, noFzs (cutD (t.map D.int) lo hi) = true := fun lo hi => by
    rw [noFzs_all, List.all_eq_true] at hn ⊢
    exact fun x hx => hn x ((cut lo hi).2 x hx)
  generalize hTT : t.map D.int = T at *
  by_cases h4 : w < 4
  · exact ⟨.lst true T, _, by simp [near_tail, fnM, sSeq, sIf, sAsg, sRet, sExpr, sNil, sPar, puts, tst, eOp, aCons, aNil, xN, xC, xMv, xS, xNot, xAnd, xOr, xIf, xInt, xL, tAndM, tOrM, tNotM, tTrue, fz, fzs, noOwn, noOwns, noFz, noFzs, fIx, fCmp, fI2, fI2c, fAdd, fSub, fMul, fMod, fDiv, fPow, fNeg, fAbs, fMax, fMin, fInt, fLen, fTup, fLst, fDivmod, fInts, cMul, cDiv, cPow, gTp, gsCons, gsNil, gSb, gNm, pNm, pIx, slP, getP, setP, mSet, mAppend, mPopAt, ownL, isLst, eMu, eMuG, L2.ixN, L2.atI, pickIO, putIO, mkAr, xCall, xCallE, xCallT, bVl, bPl, bNil, kill, iSeq, iR1, iR2, iEn, iZp, sFor, fits, i62_eq, i64_eq, ltI_eq, fzs_ints, noOwns_ints, noFzs_ints, okD_ints, ints_map, fEq, fNe, okI, okL, eqD_int, eqD_ints, eqD_nil, h4, hz, hn]; rfl, by simp [pickIO], gd_list hT (by omega)⟩
  have hw' : w = 4 ∨ w = 5 ∨ w = 6 ∨ w = 7 ∨ w = 8 ∨ w = 9 ∨ w = 10 ∨ w = 11 := by omega
  rcases hw' with rfl | rfl | rfl | rfl | rfl | rfl | rfl | rfl
  · exact ⟨.tup T, _, by simp [near_tail, fnM, sSeq, sIf, sAsg, sRet, sExpr, sNil, sPar, puts, tst, eOp, aCons, aNil, xN, xC, xMv, xS, xNot, xAnd, xOr, xIf, xInt, xL, tAndM, tOrM, tNotM, tTrue, fz, fzs, noOwn, noOwns, noFz, noFzs, fIx, fCmp, fI2, fI2c, fAdd, fSub, fMul, fMod, fDiv, fPow, fNeg, fAbs, fMax, fMin, fInt, fLen, fTup, fLst, fDivmod, fInts, cMul, cDiv, cPow, gTp, gsCons, gsNil, gSb, gNm, pNm, pIx, slP, getP, setP, mSet, mAppend, mPopAt, ownL, isLst, eMu, eMuG, L2.ixN, L2.atI, pickIO, putIO, mkAr, xCall, xCallE, xCallT, bVl, bPl, bNil, kill, iSeq, iR1, iR2, iEn, iZp, sFor, fits, i62_eq, i64_eq, ltI_eq, fzs_ints, noOwns_ints, noFzs_ints, okD_ints, ints_map, fEq, fNe, okI, okL, eqD_int, eqD_ints, eqD_nil, fTuple, hz, hn]; rfl, by simp [pickIO], gd_tup hT (by omega)⟩
  · exact ⟨.lst true (cutD T none (some sp) ++ one :: cutD T (some sp) none), _, by simp [near_tail, fnM, sSeq, sIf, sAsg, sRet, sExpr, sNil, sPar, puts, tst, eOp, aCons, aNil, xN, xC, xMv, xS, xNot, xAnd, xOr, xIf, xInt, xL, tAndM, tOrM, tNotM, tTrue, fz, fzs, noOwn, noOwns, noFz, noFzs, fIx, fCmp, fI2, fI2c, fAdd, fSub, fMul, fMod, fDiv, fPow, fNeg, fAbs, fMax, fMin, fInt, fLen, fTup, fLst, fDivmod, fInts, cMul, cDiv, cPow, gTp, gsCons, gsNil, gSb, gNm, pNm, pIx, slP, getP, setP, mSet, mAppend, mPopAt, ownL, isLst, eMu, eMuG, L2.ixN, L2.atI, pickIO, putIO, mkAr, xCall, xCallE, xCallT, bVl, bPl, bNil, kill, iSeq, iR1, iR2, iEn, iZp, sFor, fits, i62_eq, i64_eq, ltI_eq, fzs_ints, noOwns_ints, noFzs_ints, okD_ints, ints_map, fEq, fNe, okI, okL, eqD_int, eqD_ints, eqD_nil, fSl, oI, fStrCat, fCat, c2, c3, hz, hn, hnc]; rfl, by simp [pickIO], gd_list (by simpa using mix none (some sp) (some sp) none) (by simpa using mixl none (some sp) (some sp) none)⟩
  · exact ⟨.lst true (cutD T none (some sp)), _, by simp [near_tail, fnM, sSeq, sIf, sAsg, sRet, sExpr, sNil, sPar, puts, tst, eOp, aCons, aNil, xN, xC, xMv, xS, xNot, xAnd, xOr, xIf, xInt, xL, tAndM, tOrM, tNotM, tTrue, fz, fzs, noOwn, noOwns, noFz, noFzs, fIx, fCmp, fI2, fI2c, fAdd, fSub, fMul, fMod, fDiv, fPow, fNeg, fAbs, fMax, fMin, fInt, fLen, fTup, fLst, fDivmod, fInts, cMul, cDiv, cPow, gTp, gsCons, gsNil, gSb, gNm, pNm, pIx, slP, getP, setP, mSet, mAppend, mPopAt, ownL, isLst, eMu, eMuG, L2.ixN, L2.atI, pickIO, putIO, mkAr, xCall, xCallE, xCallT, bVl, bPl, bNil, kill, iSeq, iR1, iR2, iEn, iZp, sFor, fits, i62_eq, i64_eq, ltI_eq, fzs_ints, noOwns_ints, noFzs_ints, okD_ints, ints_map, fEq, fNe, okI, okL, eqD_int, eqD_ints, eqD_nil, fSl, oI, hz, hn, hnc]; rfl, by simp [pickIO], gd_list (fun x hx => hT x ((cut _ _).2 x hx)) (by have := c1 none (some sp); omega)⟩
  · obtain ⟨ks, hks⟩ : ∃ ks, ks = t.map fun c => c + 1 := ⟨_, rfl⟩
    have h6 := lcM_ints (g := gNm 8) (me := e2 (xN 8) (xC (.int 1)) fAdd) (own := [8]) (s := [some p, some y1, some (.int 7), none, some (.int n), some (.int sp), x6, some one, none]) (e := false) (fun c => c + 1) hks (fun k hk => by
        refine ⟨[some p, some y1, some (.int 7), none, some (.int n), some (.int sp), x6, some one, some (.int k)], [some p, some y1, some (.int 7), none, some (.int n), some (.int sp), x6, some one, some (.int k)], true, rfl, ?_, rfl⟩
        simp [fnM, sSeq, sIf, sAsg, sRet, sExpr, sNil, sPar, puts, tst, eOp, aCons, aNil, xN, xC, xMv, xS, xNot, xAnd, xOr, xIf, xInt, xL, tAndM, tOrM, tNotM, tTrue, fz, fzs, noOwn, noOwns, noFz, noFzs, fIx, fCmp, fI2, fI2c, fAdd, fSub, fMul, fMod, fDiv, fPow, fNeg, fAbs, fMax, fMin, fInt, fLen, fTup, fLst, fDivmod, fInts, cMul, cDiv, cPow, gTp, gsCons, gsNil, gSb, gNm, pNm, pIx, slP, getP, setP, mSet, mAppend, mPopAt, ownL, isLst, eMu, eMuG, L2.ixN, L2.atI, pickIO, putIO, mkAr, xCall, xCallE, xCallT, bVl, bPl, bNil, kill, iSeq, iR1, iR2, iEn, iZp, sFor, fits, i62_eq, i64_eq, ltI_eq, fzs_ints, noOwns_ints, noFzs_ints, okD_ints, ints_map, fEq, fNe, okI, okL, eqD_int, eqD_ints, eqD_nil]) (by omega)
    rw [hTT] at h6
    exact ⟨_, _, by simp [near_tail, fnM, sSeq, sIf, sAsg, sRet, sExpr, sNil, sPar, puts, tst, eOp, aCons, aNil, xN, xC, xMv, xS, xNot, xAnd, xOr, xIf, xInt, xL, tAndM, tOrM, tNotM, tTrue, fz, fzs, noOwn, noOwns, noFz, noFzs, fIx, fCmp, fI2, fI2c, fAdd, fSub, fMul, fMod, fDiv, fPow, fNeg, fAbs, fMax, fMin, fInt, fLen, fTup, fLst, fDivmod, fInts, cMul, cDiv, cPow, gTp, gsCons, gsNil, gSb, gNm, pNm, pIx, slP, getP, setP, mSet, mAppend, mPopAt, ownL, isLst, eMu, eMuG, L2.ixN, L2.atI, pickIO, putIO, mkAr, xCall, xCallE, xCallT, bVl, bPl, bNil, kill, iSeq, iR1, iR2, iEn, iZp, sFor, fits, i62_eq, i64_eq, ltI_eq, fzs_ints, noOwns_ints, noFzs_ints, okD_ints, ints_map, fEq, fNe, okI, okL, eqD_int, eqD_ints, eqD_nil, xLc, hz, hn, h6]; rfl, by simp [pickIO], lists _ (fun c hc => by omega) ks hks⟩
  · obtain ⟨ks, hks⟩ : ∃ ks, ks = t.map fun c => if c < 1 then c else c + 1 := ⟨_, rfl⟩
    have h6 := lcM_ints (g := gNm 8) (me := xIf (tst (e2 (xN 8) (xC (.int 1)) (fCmp fun i j => decide (i < j)))) (xN 8) (e2 (xN 8) (xC (.int 1)) fAdd)) (own := [8]) (s := [some p, some y1, some (.int 8), none, some (.int n), some (.int sp), x6, some one, none]) (e := false) (fun c => if c < 1 then c else c + 1) hks (fun k hk => by
        by_cases hk1 : k < 1
        · refine ⟨[some p, some y1, some (.int 8), none, some (.int n), some (.int sp), x6, some one, some (.int k)], [some p, some y1, some (.int 8), none, some (.int n), some (.int sp), x6, some one, some (.int k)], true, rfl, ?_, rfl⟩
          simp [fnM, sSeq, sIf, sAsg, sRet, sExpr, sNil, sPar, puts, tst, eOp, aCons, aNil, xN, xC, xMv, xS, xNot, xAnd, xOr, xIf, xInt, xL, tAndM, tOrM, tNotM, tTrue, fz, fzs, noOwn, noOwns, noFz, noFzs, fIx, fCmp, fI2, fI2c, fAdd, fSub, fMul, fMod, fDiv, fPow, fNeg, fAbs, fMax, fMin, fInt, fLen, fTup, fLst, fDivmod, fInts, cMul, cDiv, cPow, gTp, gsCons, gsNil, gSb, gNm, pNm, pIx, slP, getP, setP, mSet, mAppend, mPopAt, ownL, isLst, eMu, eMuG, L2.ixN, L2.atI, pickIO, putIO, mkAr, xCall, xCallE, xCallT, bVl, bPl, bNil, kill, iSeq, iR1, iR2, iEn, iZp, sFor, fits, i62_eq, i64_eq, ltI_eq, fzs_ints, noOwns_ints, noFzs_ints, okD_ints, ints_map, fEq, fNe, okI, okL, eqD_int, eqD_ints, eqD_nil, hk1]
        · refine ⟨[some p, some y1, some (.int 8), none, some (.int n), some (.int sp), x6, some one, some (.int k)], [some p, some y1, some (.int 8), none, some (.int n), some (.int sp), x6, some one, some (.int k)], true, rfl, ?_, rfl⟩
          simp [fnM, sSeq, sIf, sAsg, sRet, sExpr, sNil, sPar, puts, tst, eOp, aCons, aNil, xN, xC, xMv, xS, xNot, xAnd, xOr, xIf, xInt, xL, tAndM, tOrM, tNotM, tTrue, fz, fzs, noOwn, noOwns, noFz, noFzs, fIx, fCmp, fI2, fI2c, fAdd, fSub, fMul, fMod, fDiv, fPow, fNeg, fAbs, fMax, fMin, fInt, fLen, fTup, fLst, fDivmod, fInts, cMul, cDiv, cPow, gTp, gsCons, gsNil, gSb, gNm, pNm, pIx, slP, getP, setP, mSet, mAppend, mPopAt, ownL, isLst, eMu, eMuG, L2.ixN, L2.atI, pickIO, putIO, mkAr, xCall, xCallE, xCallT, bVl, bPl, bNil, kill, iSeq, iR1, iR2, iEn, iZp, sFor, fits, i62_eq, i64_eq, ltI_eq, fzs_ints, noOwns_ints, noFzs_ints, okD_ints, ints_map, fEq, fNe, okI, okL, eqD_int, eqD_ints, eqD_nil, hk1]) (by omega)
    rw [hTT] at h6
    exact ⟨_, _, by simp [near_tail, fnM, sSeq, sIf, sAsg, sRet, sExpr, sNil, sPar, puts, tst, eOp, aCons, aNil, xN, xC, xMv, xS, xNot, xAnd, xOr, xIf, xInt, xL, tAndM, tOrM, tNotM, tTrue, fz, fzs, noOwn, noOwns, noFz, noFzs, fIx, fCmp, fI2, fI2c, fAdd, fSub, fMul, fMod, fDiv, fPow, fNeg, fAbs, fMax, fMin, fInt, fLen, fTup, fLst, fDivmod, fInts, cMul, cDiv, cPow, gTp, gsCons, gsNil, gSb, gNm, pNm, pIx, slP, getP, setP, mSet, mAppend, mPopAt, ownL, isLst, eMu, eMuG, L2.ixN, L2.atI, pickIO, putIO, mkAr, xCall, xCallE, xCallT, bVl, bPl, bNil, kill, iSeq, iR1, iR2, iEn, iZp, sFor, fits, i62_eq, i64_eq, ltI_eq, fzs_ints, noOwns_ints, noFzs_ints, okD_ints, ints_map, fEq, fNe, okI, okL, eqD_int, eqD_ints, eqD_nil, xLc, hz, hn, h6]; rfl, by simp [pickIO], lists _ (fun c hc => by split <;> omega) ks hks⟩
  · exact ⟨one, _, by simp [near_tail, fnM, sSeq, sIf, sAsg, sRet, sExpr, sNil, sPar, puts, tst, eOp, aCons, aNil, xN, xC, xMv, xS, xNot, xAnd, xOr, xIf, xInt, xL, tAndM, tOrM, tNotM, tTrue, fz, fzs, noOwn, noOwns, noFz, noFzs, fIx, fCmp, fI2, fI2c, fAdd, fSub, fMul, fMod, fDiv, fPow, fNeg, fAbs, fMax, fMin, fInt, fLen, fTup, fLst, fDivmod, fInts, cMul, cDiv, cPow, gTp, gsCons, gsNil, gSb, gNm, pNm, pIx, slP, getP, setP, mSet, mAppend, mPopAt, ownL, isLst, eMu, eMuG, L2.ixN, L2.atI, pickIO, putIO, mkAr, xCall, xCallE, xCallT, bVl, bPl, bNil, kill, iSeq, iR1, iR2, iEn, iZp, sFor, fits, i62_eq, i64_eq, ltI_eq, fzs_ints, noOwns_ints, noFzs_ints, okD_ints, ints_map, fEq, fNe, okI, okL, eqD_int, eqD_ints, eqD_nil]; rfl, by simp [pickIO], ho.gd⟩
  · exact ⟨.lst true (cutD T none (some sp) ++ one :: cutD T (some (sp + 1)) none), _, by simp [near_tail, fnM, sSeq, sIf, sAsg, sRet, sExpr, sNil, sPar, puts, tst, eOp, aCons, aNil, xN, xC, xMv, xS, xNot, xAnd, xOr, xIf, xInt, xL, tAndM, tOrM, tNotM, tTrue, fz, fzs, noOwn, noOwns, noFz, noFzs, fIx, fCmp, fI2, fI2c, fAdd, fSub, fMul, fMod, fDiv, fPow, fNeg, fAbs, fMax, fMin, fInt, fLen, fTup, fLst, fDivmod, fInts, cMul, cDiv, cPow, gTp, gsCons, gsNil, gSb, gNm, pNm, pIx, slP, getP, setP, mSet, mAppend, mPopAt, ownL, isLst, eMu, eMuG, L2.ixN, L2.atI, pickIO, putIO, mkAr, xCall, xCallE, xCallT, bVl, bPl, bNil, kill, iSeq, iR1, iR2, iEn, iZp, sFor, fits, i62_eq, i64_eq, ltI_eq, fzs_ints, noOwns_ints, noFzs_ints, okD_ints, ints_map, fEq, fNe, okI, okL, eqD_int, eqD_ints, eqD_nil, fSl, oI, fStrCat, fCat, c2, c3, hz, hn, hnc]; rfl, by simp [pickIO], gd_list (by simpa using mix none (some sp) (some (sp + 1)) none) (by simpa using mixl none (some sp) (some (sp + 1)) none)⟩
  · exact ⟨.lst true (cutD T none (some sp) ++ one :: cutD T (some (sp + 1)) none), _, by simp [near_tail, fnM, sSeq, sIf, sAsg, sRet, sExpr, sNil, sPar, puts, tst, eOp, aCons, aNil, xN, xC, xMv, xS, xNot, xAnd, xOr, xIf, xInt, xL, tAndM, tOrM, tNotM, tTrue, fz, fzs, noOwn, noOwns, noFz, noFzs, fIx, fCmp, fI2, fI2c, fAdd, fSub, fMul, fMod, fDiv, fPow, fNeg, fAbs, fMax, fMin, fInt, fLen, fTup, fLst, fDivmod, fInts, cMul, cDiv, cPow, gTp, gsCons, gsNil, gSb, gNm, pNm, pIx, slP, getP, setP, mSet, mAppend, mPopAt, ownL, isLst, eMu, eMuG, L2.ixN, L2.atI, pickIO, putIO, mkAr, xCall, xCallE, xCallT, bVl, bPl, bNil, kill, iSeq, iR1, iR2, iEn, iZp, sFor, fits, i62_eq, i64_eq, ltI_eq, fzs_ints, noOwns_ints, noFzs_ints, okD_ints, ints_map, fEq, fNe, okI, okL, eqD_int, eqD_ints, eqD_nil, fSl, oI, fStrCat, fCat, c2, c3, hz, hn, hnc]; rfl, by simp [pickIO], gd_list (by simpa using mix none (some sp) (some (sp + 1)) none) (by simpa using mixl none (some sp) (some (sp + 1)) none)⟩
theorem near_ok {p : D} (hp : Pot p) {t : List Int} (ht : ∀ c ∈ t, 0 ≤ c ∧ c < 1000) (hl : t.length ≤ 28) : ∃ d p', fr__law_near [p, .lst false (t.map D.int)] = .ok d [p'] ∧ Pot p' ∧ Gd d := by
  obtain ⟨w, p1, e1, hp1, w0, w1⟩ := draw_ok hp (n := 12) (by omega) (by omega)
  obtain ⟨sp, p2, e2', hp2, s0, s1⟩ := draw_ok hp1 (n := (t.length : Int) + 1) (by omega) (by omega)
  obtain ⟨i, p3, e3, hp3, i0, i1⟩ := draw_ok hp2 (n := 11) (by omega) (by omega)
  obtain ⟨one, h1, h2⟩ := at_some (xs := strange t.length) i0 (by simp [strange]; omega)
  have hone := strange_ok (n := (t.length : Int)) (by omega) (by omega) one h2
  obtain ⟨d, s', h3, h4, h5⟩ := near_tail_ok (p := p3) (y1 := .lst false (t.map D.int)) (x6 := none) (n := t.length) (sp := sp) ht hl ⟨w0, w1⟩ hone
  refine ⟨d, p3, ?_, hp3, h5⟩
  have hfz : ∀ x ∈ strange t.length, noFz x = true := by simp [strange, noFz, noFzs]
  have hone2 := hfz one h2
  have hcut : cutD (t.map D.int) none none = t.map D.int := by
    simp [cutD, HT.sIx]
    exact List.take_of_length_le (by simp)
  have hm : m__law_near = (sSeq (sPar (aCons (xCallE [0] fr__law_draw (bPl 0 (bVl (xC (.int 12)) bNil))) (aCons (eOp (aCons (xN 1) (aCons (xC .non) (aCons (xC .non) aNil))) fSl) (aCons (VL.e1 (xN 1) fLen) aNil))) [2, 3, 4])
    (sSeq (sAsg (xCallE [0] fr__law_draw (bPl 0 (bVl (e2 (xN 4) (xC (.int 1)) fAdd) bNil))) (gNm 5))
    (sSeq (sAsg (eOp (aCons (VL.e1 (xC (.int 1)) fNeg) (aCons (xN 4) (aCons (e2 (xN 4) (xC (.int 1)) fAdd) (aCons (xC (.bl true)) (aCons (xC (.bl false)) (aCons (xC .non) (aCons (xC (.str "0")) (aCons (eOp (aCons (xC (.int 0)) aNil) fTup) (aCons (eOp (aCons (xC (.int 0)) aNil) fLst) (aCons (e2 (xC (.int 10)) (xC (.int 29)) fPow) (aCons (VL.e1 (e2 (xC (.int 10)) (xC (.int 29)) fPow) fNeg) aNil))))))))))) fLst) (gNm 6))
    (sSeq (sAsg (e2 (xMv 6) (xCallE [0] fr__law_draw (bPl 0 (bVl (xC (.int 11)) bNil))) fIx) (gNm 7)) near_tail)))) := rfl
  have hlen : ((t.map D.int).length : Int) = t.length := by simp
  unfold strange at h1
  simp [L2.atI, L2.ixN] at h1
  simp [pickIO] at h4
  simp only [fr__law_near, fnM, hm]
  have hf1 : (t.length : Int) + 1 = ((t.length + 1 : Nat) : Int) := by omega
  simp [fnM, sSeq, sIf, sAsg, sRet, sExpr, sNil, sPar, puts, tst, eOp, aCons, aNil, xN, xC, xMv, xS, xNot, xAnd, xOr, xIf, xInt, xL, tAndM, tOrM, tNotM, tTrue, fz, fzs, noOwn, noOwns, noFz, noFzs, fIx, fCmp, fI2, fI2c, fAdd, fSub, fMul, fMod, fDiv, fPow, fNeg, fAbs, fMax, fMin, fInt, fLen, fTup, fLst, fDivmod, fInts, cMul, cDiv, cPow, gTp, gsCons, gsNil, gSb, gNm, pNm, pIx, slP, getP, setP, mSet, mAppend, mPopAt, ownL, isLst, eMu, eMuG, L2.ixN, L2.atI, pickIO, putIO, mkAr, xCall, xCallE, xCallT, bVl, bPl, bNil, kill, iSeq, iR1, iR2, iEn, iZp, sFor, fits, i62_eq, i64_eq, ltI_eq, fzs_ints, noOwns_ints, noFzs_ints, okD_ints, ints_map, fEq, fNe, okI, okL, eqD_int, eqD_ints, eqD_nil, fSl, oI, hcut, e1, e2', e3, h1, hone2, h3, h4]
end Wk30
namespace Wk30
open PySem PySem.Spec VL
def q0__law_right : MS := (sAsg (e2 (eOp (aCons (xC (.int 0)) (aCons (xC (.int 1)) (aCons (xC (.int 2)) (aCons (xC (.int 3)) (aCons (xC (.int 4)) (aCons (xC (.int 5)) (aCons (xC (.int 6)) (aCons (xC (.int 24)) aNil)))))))) fLst) (xCallE [0] fr__law_draw (bPl 1 (bVl (xC (.int 8)) bNil))) fIx) (gNm 2))
def q1__law_right : MS := (sAsg (xLc (iR1 (aCons (e2 (xC (.int 25)) (xCallE [0] fr__law_draw (bPl 1 (bVl (xC (.int 9)) bNil))) fAdd) aNil)) (gNm 4) tTrue (xC (.int 0)) [4]) (gNm 3))
def q2__law_right : MS := (sAsg (eOp (aCons (xCall fr_is_colouring (aCons (e1 (xN 3) fLen) (aCons (xN 3) aNil))) (aCons (xCall fr_is_colouring (aCons (e2 (e1 (xN 3) fLen) (xC (.int 1)) fAdd) (aCons (xN 3) aNil))) aNil)) fLst) (gNm 5))
def q3__law_right : MS := (sIf (tst (e2 (e1 (xN 5) fRepr) (e1 (eOp (aCons (xC (.bl true)) (aCons (xC (.bl false)) aNil)) fLst) fRepr) fNe)) (sRet (xC (.bl false))) sNil)
def q4__law_right : MS := (sAsg (xCallE [0] fr__law_tint (bPl 0 (bVl (xN 2) bNil))) (gNm 6))
def q5__law_right : MS := (sAsg (xIf (tst (e2 (xCallE [0] fr__law_draw (bPl 1 (bVl (xC (.int 2)) bNil))) (xC (.int 0)) fEq)) (xCallE [0] fr__law_tint (bPl 1 (bVl (xN 2) bNil))) (xCallE [0] fr__law_coarser (bPl 1 (bVl (xS 6) bNil)))) (gNm 7))
def q6__law_right : MS := (sPar (aCons (xCallE [0] fr__law_row (bPl 1 (bVl (xN 2) bNil))) (aCons (e2 (xN 2) (e2 (xCallE [0] fr__law_draw (bPl 1 (bVl (xC (.int 5)) bNil))) (xC (.int 4)) fDiv) fAdd) aNil)) [8, 9])
def q7__law_right : MS := (sFor (iSeq (eOp (aCons (xS 6) (aCons (xCallE [0] fr__law_near (bPl 0 (bVl (xS 6) bNil))) (aCons (xCallE [0] fr__law_near (bPl 1 (bVl (xS 7) bNil))) aNil))) fTup)) (gNm 10) (sSeq (sAsg (e1 (xN 10) fRepr) (gNm 11)) (sSeq (sAsg (eOp (aCons (xCall fr_is_colouring (aCons (xN 2) (aCons (xN 10) aNil))) (aCons (xCall (fun ds => fr_is_colouring (permL [1, 0] ds)) (aCons (xN 10) (aCons (xN 9) aNil))) aNil)) fLst) (gNm 5)) (sSeq (sIf (tst (e2 (e1 (xN 5) fRepr) (e1 (eOp (aCons (xCall fr__law_is_one (aCons (xN 2) (aCons (xN 10) aNil))) (aCons (xCall fr__law_is_one (aCons (xN 9) (aCons (xN 10) aNil))) aNil)) fLst) fRepr) fNe)) (sRet (xC (.bl false))) sNil) (sIf (tst (e2 (e1 (xN 10) fRepr) (xN 11) fNe)) (sRet (xC (.bl false))) sNil)))) [10, 11, 5])
def q8__law_right : MS := (sFor (iSeq (eOp (aCons (eOp (aCons (xS 6) (aCons (xS 7) aNil)) fTup) (aCons (eOp (aCons (xS 7) (aCons (xS 6) aNil)) fTup) (aCons (eOp (aCons (xS 6) (aCons (xS 6) aNil)) fTup) aNil))) fTup)) (gTp 2 (gsCons (gNm 12) (gsCons (gNm 13) gsNil))) (sSeq (sAsg (eOp (aCons (xCall fr_is_finer (aCons (eOp (aCons (xN 12) (aCons (xC .non) (aCons (xC .non) aNil))) fSl) (aCons (eOp (aCons (xN 13) (aCons (xC .non) (aCons (xC .non) aNil))) fSl) aNil))) (aCons (xCall fr_keeps_sequence (aCons (eOp (aCons (xN 12) (aCons (xC .non) (aCons (xC .non) aNil))) fSl) (aCons (eOp (aCons (xN 13) (aCons (xC .non) (aCons (xC .non) aNil))) fSl) aNil))) aNil)) fLst) (gNm 5)) (sIf (tst (e2 (e1 (xN 5) fRepr) (e1 (xCall fr__law_compared (aCons (xN 12) (aCons (xN 13) aNil))) fRepr) fNe)) (sRet (xC (.bl false))) sNil)) [12, 13, 5])
def q9__law_right : MS := (sAsg (eOp (aCons (xCall (fun ds => fr_is_finer (permL [1, 0] ds)) (aCons (xN 7) (aCons (xN 6) aNil))) (aCons (xCall (fun ds => fr_keeps_sequence (permL [1, 0] ds)) (aCons (xN 7) (aCons (xN 6) aNil))) aNil)) fLst) (gNm 5))
def q10__law_right : MS := (sIf (tst (e2 (e1 (xN 5) fRepr) (e1 (xCall fr__law_compared (aCons (xN 6) (aCons (xN 7) aNil))) fRepr) fNe)) (sRet (xC (.bl false))) sNil)
def q11__law_right : MS := (sAsg (xCall fr__law_cells (aCons (xN 6) aNil)) (gNm 14))
def q12__law_right : MS := (sAsg (xLc (iSeq (xS 14)) (gNm 16) tTrue (e1 (xN 16) fLen) [16]) (gNm 15))
def q13__law_right : MS := (sAsg (eOp (aCons (xCall fr_cells_of (aCons (xN 6) aNil)) (aCons (xCall (fun ds => fr_trace_of (permL [0] ds)) (aCons (xN 6) aNil)) (aCons (xCall (fun ds => fr_is_discrete (permL [0] ds)) (aCons (xN 6) aNil)) aNil))) fLst) (gNm 5))
def q14__law_right : MS := (sIf (tst (e2 (e1 (xN 5) fRepr) (e1 (eOp (aCons (xN 14) (aCons (xN 15) (aCons (e2 (e1 (xN 14) fLen) (xN 2) fEq) aNil))) fLst) fRepr) fNe)) (sRet (xC (.bl false))) sNil)
def q15__law_right : MS := (sForN (e2 (xMv 5) (xC (.int 0)) fIx) (gNm 16) (sExpr (eMu 16 (pNm 16) (aCons (xC .non) aNil) mAppend)) [16])
def q16__law_right : MS := (sPar (aCons (xLc (iSeq (xS 6)) (gNm 4) tTrue (xC (.int 0)) [4]) (aCons (e1 (eOp (aCons (xS 6) (aCons (xN 8) aNil)) fLst) fRepr) aNil)) [17, 11])
def q17__law_right : MS := (sFor (iEn (aCons (xS 6) aNil)) (gTp 2 (gsCons (gNm 4) (gsCons (gNm 18) gsNil))) (sAsg (xN 18) (gSb 17 (pNm 17) (e2 (xN 8) (xN 4) fIx))) [4, 18])
def q18__law_right : MS := (sIf (tst (e2 (e1 (eOp (aCons (xCall (fun ds => fr_cells_of (permL [0] ds)) (aCons (xN 6) aNil)) (aCons (xCall fr_colouring_led (aCons (xN 6) (aCons (xN 8) aNil))) aNil)) fLst) fRepr) (e1 (eOp (aCons (xN 14) (aCons (xN 17) aNil)) fLst) fRepr) fNe)) (sRet (xC (.bl false))) sNil)
def q19__law_right : MS := (sAsg (eOp (aCons (xCall fr_colouring_led (aCons (xN 6) (aCons (e1 (xN 2) fRg) aNil))) (aCons (xCall fr_colouring_led (aCons (xN 6) (aCons (xN 8) aNil))) aNil)) fLst) (gNm 5))
def q20__law_right : MS := (sIf (tst (e2 (e1 (xN 5) fRepr) (e1 (eOp (aCons (xS 6) (aCons (xN 17) aNil)) fLst) fRepr) fNe)) (sRet (xC (.bl false))) sNil)
def q21__law_right : MS := (sExpr (eMu 5 (pIx 5 (pNm 5) (xC (.int 0))) (aCons (xC .non) aNil) mAppend))
def q22__law_right : MS := (sRet (xAnd (e2 (xCall (fun ds => fr_colouring_led (permL [1, 0] ds)) (aCons (xN 8) (aCons (xN 6) aNil))) (xN 17) fEq) (e2 (e1 (eOp (aCons (xS 6) (aCons (xN 8) aNil)) fLst) fRepr) (xN 11) fEq)))
def r22__law_right : MS := q22__law_right
def r21__law_right : MS := sSeq q21__law_right r22__law_right
def r20__law_right : MS := sSeq q20__law_right r21__law_right
def r19__law_right : MS := sSeq q19__law_right r20__law_right
def r18__law_right : MS := sSeq q18__law_right r19__law_right
def r17__law_right : MS := sSeq q17__law_right r18__law_right
def r16__law_right : MS := sSeq q16__law_right r17__law_right
def r15__law_right : MS := sSeq q15__law_right r16__law_right
def r14__law_right : MS := sSeq q14__law_right r15__law_right
def r13__law_right : MS := sSeq q13__law_right r14__law_right
def r12__law_right : MS := sSeq q12__law_right r13__law_right
def r11__law_right : MS := sSeq q11__law_right r12__law_right
def r10__law_right : MS := sSeq q10__law_right r11__law_right
def r9__law_right : MS := sSeq q9__law_right r10__law_right
def r8__law_right : MS := sSeq q8__law_right r9__law_right
def r7__law_right : MS := sSeq q7__law_right r8__law_right
def r6__law_right : MS := sSeq q6__law_right r7__law_right
def r5__law_right : MS := sSeq q5__law_right r6__law_right
def r4__law_right : MS := sSeq q4__law_right r5__law_right
def r3__law_right : MS := sSeq q3__law_right r4__law_right
def r2__law_right : MS := sSeq q2__law_right r3__law_right
def r1__law_right : MS := sSeq q1__law_right r2__law_right
def r0__law_right : MS := sSeq q0__law_right r1__law_right
theorem r0_eq__law_right : m__law_right = r0__law_right := rfl
theorem seq_nx {q r : MS} {s s' : Sl} (h : q s = .nx s') : sSeq q r s = r s' := by simp [sSeq, h]
theorem Gd.th {d : D} (h : Gd d) : Th (fz d) := by
  refine ⟨fz_of_noOwn _ (fz_noOwn d), ?_, ?_⟩
  · intro xs e
    cases d <;> simp [fz] at e
    exact h.wl _ rfl
  · intro o xs e
    cases d <;> simp [fz] at e
    obtain ⟨_, rfl⟩ := e
    rw [fzs_map, List.length_map]
    exact h.len _ _ rfl
theorem th_ints {t : List Int} (hl : t.length ≤ 1000) : Th (.lst false (t.map D.int)) :=
  ⟨by simp [fz, fzs_ints], by simp, fun o xs e => by cases e; simpa using hl⟩
theorem pl_ints {k : Nat} (o : Bool) {t : List Int} (ht : ∀ c ∈ t, 0 ≤ c ∧ c < 1000) (hl : t.length ≤ 60) : Pl (k + 1) 10000 (.lst o (t.map D.int)) :=
  Pl.ints o (fun i hi => by have := ht i hi; omega) (by omega)
theorem pl_bls {k : Nat} (o : Bool) (bs : List Bool) (hl : bs.length ≤ 60) : Pl (k + 1) 10000 (.lst o (bs.map D.bl)) := by
  simp only [Pl]
  refine ⟨5, fun x hx => ?_, by rw [List.length_map]; omega⟩
  obtain ⟨b, _, rfl⟩ := List.mem_map.mp hx
  cases k <;> (simp only [Pl]; omega)
/-! ### the steps of _law_right -/
theorem step0 {p m : D} (hm : Pot m) : ∃ (n : Nat) (m' : D), Pot m' ∧ n ≤ 24 ∧
    q0__law_right [some p, some m, none, none, none, none, none, none, none, none, none, none, none, none, none, none, none, none, none] = .nx [some p, some m', some (.int n), none, none, none, none, none, none, none, none, none, none, none, none, none, none, none, none] := by
  obtain ⟨d, m', e1, hm', d0, d1⟩ := draw_ok hm (n := 8) (by omega) (by omega)
  have key : ∀ n : Nat, n ≤ 24 → L2.atI [D.int 0, .int 1, .int 2, .int 3, .int 4, .int 5, .int 6, .int 24] d = some (.int n) → ∃ (n : Nat) (m' : D), Pot m' ∧ n ≤ 24 ∧
    q0__law_right [some p, some m, none, none, none, none, none, none, none, none, none, none, none, none, none, none, none, none, none] = .nx [some p, some m', some (.int n), none, none, none, none, none, none, none, none, none, none, none, none, none, none, none, none] := fun n hn hat => by
    refine ⟨n, m', hm', hn, ?_⟩
    unfold L2.atI L2.ixN at hat
    simp at hat
    simp [q0__law_right, fnM, sSeq, sIf, sAsg, sRet, sExpr, sNil, sPar, puts, tst, eOp, aCons, aNil, xN, xC, xMv, xS, xNot, xAnd, xOr, xIf, xInt, xL, tAndM, tOrM, tNotM, tTrue, fz, fzs, noOwn, noOwns, noFz, noFzs, fIx, fCmp, fI2, fI2c, fAdd, fSub, fMul, fMod, fDiv, fPow, fNeg, fAbs, fMax, fMin, fInt, fLen, fTup, fLst, fDivmod, fInts, cMul, cDiv, cPow, gTp, gsCons, gsNil, gSb, gNm, pNm, pIx, slP, getP, setP, mSet, mAppend, mPopAt, ownL, isLst, eMu, eMuG, L2.ixN, L2.atI, pickIO, putIO, mkAr, xCall, xCallE, xCallT, bVl, bPl, bNil, kill, iSeq, iR1, iR2, iEn, iZp, sFor, fits, i62_eq, i64_eq, ltI_eq, fzs_ints, noOwns_ints, noFzs_ints, okD_ints, ints_map, fEq, fNe, okI, okL, eqD_int, eqD_ints, eqD_nil, e1, hat]
  have hd : d = 0 ∨ d = 1 ∨ d = 2 ∨ d = 3 ∨ d = 4 ∨ d = 5 ∨ d = 6 ∨ d = 7 := by omega
  rcases hd with rfl | rfl | rfl | rfl | rfl | rfl | rfl | rfl
  · exact key 0 (by omega) rfl
  · exact key 1 (by omega) rfl
  · exact key 2 (by omega) rfl
  · exact key 3 (by omega) rfl
  · exact key 4 (by omega) rfl
  · exact key 5 (by omega) rfl
  · exact key 6 (by omega) rfl
  · exact key 24 (by omega) rfl
theorem step1 {p m : D} {n : Nat} (hm : Pot m) : ∃ (k : Nat) (m' : D), Pot m' ∧ 25 ≤ k ∧ k ≤ 33 ∧
    q1__law_right [some p, some m, some (.int n), none, none, none, none, none, none, none, none, none, none, none, none, none, none, none, none] = .nx [some p, some m', some (.int n), some (.lst true (((upto k).map fun _ => 0).map D.int)), none, none, none, none, none, none, none, none, none, none, none, none, none, none, none] := by
  obtain ⟨d, m', e1, hm', d0, d1⟩ := draw_ok hm (n := 9) (by omega) (by omega)
  obtain ⟨k, hk⟩ : ∃ k : Nat, 25 + d = (k : Int) := ⟨(25 + d).toNat, by omega⟩
  refine ⟨k, m', hm', by omega, by omega, ?_⟩
  have h6 := lcM_ints (g := gNm 4) (me := xC (.int 0)) (own := [4]) (s := [some p, some m', some (.int n), none, none, none, none, none, none, none, none, none, none, none, none, none, none, none, none]) (ns := upto k) (ks := (upto k).map fun _ => 0) (e := false) (fun _ => 0) rfl (fun j hj => by
    refine ⟨[some p, some m', some (.int n), none, some (.int j), none, none, none, none, none, none, none, none, none, none, none, none, none, none], [some p, some m', some (.int n), none, some (.int j), none, none, none, none, none, none, none, none, none, none, none, none, none, none], true, rfl, ?_, rfl⟩
    simp [fnM, sSeq, sIf, sAsg, sRet, sExpr, sNil, sPar, puts, tst, eOp, aCons, aNil, xN, xC, xMv, xS, xNot, xAnd, xOr, xIf, xInt, xL, tAndM, tOrM, tNotM, tTrue, fz, fzs, noOwn, noOwns, noFz, noFzs, fIx, fCmp, fI2, fI2c, fAdd, fSub, fMul, fMod, fDiv, fPow, fNeg, fAbs, fMax, fMin, fInt, fLen, fTup, fLst, fDivmod, fInts, cMul, cDiv, cPow, gTp, gsCons, gsNil, gSb, gNm, pNm, pIx, slP, getP, setP, mSet, mAppend, mPopAt, ownL, isLst, eMu, eMuG, L2.ixN, L2.atI, pickIO, putIO, mkAr, xCall, xCallE, xCallT, bVl, bPl, bNil, kill, iSeq, iR1, iR2, iEn, iZp, sFor, fits, i62_eq, i64_eq, ltI_eq, fzs_ints, noOwns_ints, noFzs_ints, okD_ints, ints_map, fEq, fNe, okI, okL, eqD_int, eqD_ints, eqD_nil]) (by rw [upto_length]; omega)
  have c1 : -4611686018427387904 ≤ (k : Int) ∧ (k : Int) < 4611686018427387904 := by omega
  obtain ⟨zs, hzs⟩ : ∃ zs, zs = ((upto k).map fun _ => (0 : Int)).map D.int := ⟨_, rfl⟩
  rw [← hzs] at h6 ⊢
  simp [q1__law_right, fnM, sSeq, sIf, sAsg, sRet, sExpr, sNil, sPar, puts, tst, eOp, aCons, aNil, xN, xC, xMv, xS, xNot, xAnd, xOr, xIf, xInt, xL, tAndM, tOrM, tNotM, tTrue, fz, fzs, noOwn, noOwns, noFz, noFzs, fIx, fCmp, fI2, fI2c, fAdd, fSub, fMul, fMod, fDiv, fPow, fNeg, fAbs, fMax, fMin, fInt, fLen, fTup, fLst, fDivmod, fInts, cMul, cDiv, cPow, gTp, gsCons, gsNil, gSb, gNm, pNm, pIx, slP, getP, setP, mSet, mAppend, mPopAt, ownL, isLst, eMu, eMuG, L2.ixN, L2.atI, pickIO, putIO, mkAr, xCall, xCallE, xCallT, bVl, bPl, bNil, kill, iSeq, iR1, iR2, iEn, iZp, sFor, fits, i62_eq, i64_eq, ltI_eq, fzs_ints, noOwns_ints, noFzs_ints, okD_ints, ints_map, fEq, fNe, okI, okL, eqD_int, eqD_ints, eqD_nil, e1, xLc, hk, c1, rngD_upto, h6]
theorem zeros_ok (k : Nat) (h0 : 25 ≤ k) (h1 : k ≤ 33) : isColB k (.lst false (((upto k).map fun _ => 0).map D.int)) = true ∧ isColB (k + 1) (.lst false (((upto k).map fun _ => 0).map D.int)) = false := by
  constructor
  · have : k = 25 ∨ k = 26 ∨ k = 27 ∨ k = 28 ∨ k = 29 ∨ k = 30 ∨ k = 31 ∨ k = 32 ∨ k = 33 := by omega
    rcases this with rfl | rfl | rfl | rfl | rfl | rfl | rfl | rfl | rfl <;> decide +kernel
  · unfold isColB
    simp [upto_length]
    omega
theorem step23 {p m : D} {n k : Nat} (h0 : 25 ≤ k) (h1 : k ≤ 33) : ∃ w tt : D,
    sSeq q2__law_right (sSeq q3__law_right r4__law_right) [some p, some m, some (.int n), some (.lst true (((upto k).map fun _ => 0).map D.int)), none, none, none, none, none, none, none, none, none, none, none, none, none, none, none] = r4__law_right [some p, some m, some (.int n), some w, none, some tt, none, none, none, none, none, none, none, none, none, none, none, none, none] := by
  obtain ⟨z1, z2⟩ := zeros_ok k h0 h1
  obtain ⟨zs, hzs⟩ : ∃ zs : List Int, zs = (upto k).map fun _ => (0 : Int) := ⟨_, rfl⟩
  have hl : zs.length = k := by rw [hzs]; simp [upto_length]
  rw [← hzs] at z1 z2 ⊢
  have i1 := is_colouring_ok (k : Int) _ (th_ints (t := zs) (by omega))
  have i2 := is_colouring_ok ((k : Int) + 1) _ (th_ints (t := zs) (by omega))
  rw [z1] at i1
  rw [z2] at i2
  have pb : ∀ o, Pl 60 10000 (.lst o [.bl true, .bl false]) := fun o => pl_bls o [true, false] (by decide)
  have r1 := (pb true).re (by omega)
  have r2 := (pb false).re (by omega)
  have ok := (pb true).okS 60
  have r3 : showD (.lst false [.bl true, .bl false]) = showD (.lst true [.bl true, .bl false]) := rfl
  refine ⟨.lst true (zs.map D.int), .lst true [.bl true, .bl false], ?_⟩
  obtain ⟨z, hz⟩ : ∃ z, showD (.lst true [.bl true, .bl false]) = z := ⟨_, rfl⟩
  rw [hz] at ok r3
  simp [q2__law_right, q3__law_right, fnM, sSeq, sIf, sAsg, sRet, sExpr, sNil, sPar, puts, tst, eOp, aCons, aNil, xN, xC, xMv, xS, xNot, xAnd, xOr, xIf, xInt, xL, tAndM, tOrM, tNotM, tTrue, fz, fzs, noOwn, noOwns, noFz, noFzs, fIx, fCmp, fI2, fI2c, fAdd, fSub, fMul, fMod, fDiv, fPow, fNeg, fAbs, fMax, fMin, fInt, fLen, fTup, fLst, fDivmod, fInts, cMul, cDiv, cPow, gTp, gsCons, gsNil, gSb, gNm, pNm, pIx, slP, getP, setP, mSet, mAppend, mPopAt, ownL, isLst, eMu, eMuG, L2.ixN, L2.atI, pickIO, putIO, mkAr, xCall, xCallE, xCallT, bVl, bPl, bNil, kill, iSeq, iR1, iR2, iEn, iZp, sFor, fits, i62_eq, i64_eq, ltI_eq, fzs_ints, noOwns_ints, noFzs_ints, okD_ints, ints_map, fEq, fNe, okI, okL, eqD_int, eqD_ints, eqD_nil, hl, i1, i2, fRepr, r1, r2, r3, hz, ok, eqD_str]
end Wk30
namespace Wk30
open PySem PySem.Spec VL
theorem step4 {p m w tt : D} {n : Nat} (hp : Pot p) (hn : n ≤ 24) : ∃ (t : List Int) (p' : D), Pot p' ∧ t.length = n ∧ Col t ∧
    q4__law_right [some p, some m, some (.int n), some w, none, some tt, none, none, none, none, none, none, none, none, none, none, none, none, none] = .nx [some p', some m, some (.int n), some w, none, some tt, some (.lst true (t.map D.int)), none, none, none, none, none, none, none, none, none, none, none, none] := by
  obtain ⟨t, p', h1, h2, h3, h4⟩ := tint_ok hp (n := n) (by omega)
  refine ⟨t, p', h2, h3, h4, ?_⟩
  simp [q4__law_right, fnM, sSeq, sIf, sAsg, sRet, sExpr, sNil, sPar, puts, tst, eOp, aCons, aNil, xN, xC, xMv, xS, xNot, xAnd, xOr, xIf, xInt, xL, tAndM, tOrM, tNotM, tTrue, fz, fzs, noOwn, noOwns, noFz, noFzs, fIx, fCmp, fI2, fI2c, fAdd, fSub, fMul, fMod, fDiv, fPow, fNeg, fAbs, fMax, fMin, fInt, fLen, fTup, fLst, fDivmod, fInts, cMul, cDiv, cPow, gTp, gsCons, gsNil, gSb, gNm, pNm, pIx, slP, getP, setP, mSet, mAppend, mPopAt, ownL, isLst, eMu, eMuG, L2.ixN, L2.atI, pickIO, putIO, mkAr, xCall, xCallE, xCallT, bVl, bPl, bNil, kill, iSeq, iR1, iR2, iEn, iZp, sFor, fits, i62_eq, i64_eq, ltI_eq, fzs_ints, noOwns_ints, noFzs_ints, okD_ints, ints_map, fEq, fNe, okI, okL, eqD_int, eqD_ints, eqD_nil, h1]
theorem step5 {p m w tt : D} {n : Nat} {t : List Int} (hm : Pot m) (hn : n ≤ 24) (ht : t.length = n) : ∃ (o : Bool) (f : List Int) (m' : D), Pot m' ∧ f.length = n ∧ Col f ∧
    q5__law_right [some p, some m, some (.int n), some w, none, some tt, some (.lst true (t.map D.int)), none, none, none, none, none, none, none, none, none, none, none, none] = .nx [some p, some m', some (.int n), some w, none, some tt, some (.lst o (t.map D.int)), some (.lst true (f.map D.int)), none, none, none, none, none, none, none, none, none, none, none] := by
  obtain ⟨d, m1, e1, hm1, d0, d1⟩ := draw_ok hm (n := 2) (by omega) (by omega)
  by_cases h : d = 0
  · subst h
    obtain ⟨f, m2, h1, h2, h3, h4⟩ := tint_ok hm1 (n := n) (by omega)
    refine ⟨true, f, m2, h2, h3, h4, ?_⟩
    simp [q5__law_right, fnM, sSeq, sIf, sAsg, sRet, sExpr, sNil, sPar, puts, tst, eOp, aCons, aNil, xN, xC, xMv, xS, xNot, xAnd, xOr, xIf, xInt, xL, tAndM, tOrM, tNotM, tTrue, fz, fzs, noOwn, noOwns, noFz, noFzs, fIx, fCmp, fI2, fI2c, fAdd, fSub, fMul, fMod, fDiv, fPow, fNeg, fAbs, fMax, fMin, fInt, fLen, fTup, fLst, fDivmod, fInts, cMul, cDiv, cPow, gTp, gsCons, gsNil, gSb, gNm, pNm, pIx, slP, getP, setP, mSet, mAppend, mPopAt, ownL, isLst, eMu, eMuG, L2.ixN, L2.atI, pickIO, putIO, mkAr, xCall, xCallE, xCallT, bVl, bPl, bNil, kill, iSeq, iR1, iR2, iEn, iZp, sFor, fits, i62_eq, i64_eq, ltI_eq, fzs_ints, noOwns_ints, noFzs_ints, okD_ints, ints_map, fEq, fNe, okI, okL, eqD_int, eqD_ints, eqD_nil, e1, h1]
  · obtain ⟨f, m2, h1, h2, h3, h4⟩ := coarser_ok hm1 t (by omega)
    refine ⟨false, f, m2, h2, by omega, h4, ?_⟩
    simp [q5__law_right, fnM, sSeq, sIf, sAsg, sRet, sExpr, sNil, sPar, puts, tst, eOp, aCons, aNil, xN, xC, xMv, xS, xNot, xAnd, xOr, xIf, xInt, xL, tAndM, tOrM, tNotM, tTrue, fz, fzs, noOwn, noOwns, noFz, noFzs, fIx, fCmp, fI2, fI2c, fAdd, fSub, fMul, fMod, fDiv, fPow, fNeg, fAbs, fMax, fMin, fInt, fLen, fTup, fLst, fDivmod, fInts, cMul, cDiv, cPow, gTp, gsCons, gsNil, gSb, gNm, pNm, pIx, slP, getP, setP, mSet, mAppend, mPopAt, ownL, isLst, eMu, eMuG, L2.ixN, L2.atI, pickIO, putIO, mkAr, xCall, xCallE, xCallT, bVl, bPl, bNil, kill, iSeq, iR1, iR2, iEn, iZp, sFor, fits, i62_eq, i64_eq, ltI_eq, fzs_ints, noOwns_ints, noFzs_ints, okD_ints, ints_map, fEq, fNe, okI, okL, eqD_int, eqD_ints, eqD_nil, e1, h1, h]
theorem step6 {p m w tt tn fr : D} {n : Nat} (hm : Pot m) (hn : n ≤ 24) : ∃ (l : List Int) (a : Int) (m' : D), Pot m' ∧ l.Perm (upto n) ∧
    q6__law_right [some p, some m, some (.int n), some w, none, some tt, some tn, some fr, none, none, none, none, none, none, none, none, none, none, none] = .nx [some p, some m', some (.int n), some w, none, some tt, some tn, some fr, some (.lst true (l.map D.int)), some (.int a), none, none, none, none, none, none, none, none, none] := by
  obtain ⟨l, m1, h1, h2, h3⟩ := row_ok hm (n := n) (by omega)
  obtain ⟨d, m2, e1, hm2, d0, d1⟩ := draw_ok h2 (n := 5) (by omega) (by omega)
  refine ⟨l, (n : Int) + d / 4, m2, hm2, h3, ?_⟩
  simp [q6__law_right, fnM, sSeq, sIf, sAsg, sRet, sExpr, sNil, sPar, puts, tst, eOp, aCons, aNil, xN, xC, xMv, xS, xNot, xAnd, xOr, xIf, xInt, xL, tAndM, tOrM, tNotM, tTrue, fz, fzs, noOwn, noOwns, noFz, noFzs, fIx, fCmp, fI2, fI2c, fAdd, fSub, fMul, fMod, fDiv, fPow, fNeg, fAbs, fMax, fMin, fInt, fLen, fTup, fLst, fDivmod, fInts, cMul, cDiv, cPow, gTp, gsCons, gsNil, gSb, gNm, pNm, pIx, slP, getP, setP, mSet, mAppend, mPopAt, ownL, isLst, eMu, eMuG, L2.ixN, L2.atI, pickIO, putIO, mkAr, xCall, xCallE, xCallT, bVl, bPl, bNil, kill, iSeq, iR1, iR2, iEn, iZp, sFor, fits, i62_eq, i64_eq, ltI_eq, fzs_ints, noOwns_ints, noFzs_ints, okD_ints, ints_map, fEq, fNe, okI, okL, eqD_int, eqD_ints, eqD_nil, e1, h1]
/-! the loop over things -/
def lp7 : MS := (sSeq (sAsg (e1 (xN 10) fRepr) (gNm 11)) (sSeq (sAsg (eOp (aCons (xCall fr_is_colouring (aCons (xN 2) (aCons (xN 10) aNil))) (aCons (xCall (fun ds => fr_is_colouring (permL [1, 0] ds)) (aCons (xN 10) (aCons (xN 9) aNil))) aNil)) fLst) (gNm 5)) (sSeq (sIf (tst (e2 (e1 (xN 5) fRepr) (e1 (eOp (aCons (xCall fr__law_is_one (aCons (xN 2) (aCons (xN 10) aNil))) (aCons (xCall fr__law_is_one (aCons (xN 9) (aCons (xN 10) aNil))) aNil)) fLst) fRepr) fNe)) (sRet (xC (.bl false))) sNil) (sIf (tst (e2 (e1 (xN 10) fRepr) (xN 11) fNe)) (sRet (xC (.bl false))) sNil))))
theorem lp7_ok {p m w tn fr l d : D} {n : Nat} {a : Int} {x5 : Option D} (T : Th d) (P : Pl 60 10000 d) : ∃ s', lp7 [some p, some m, some (.int n), some w, none, x5, some tn, some fr, some l, some (.int a), some d, none, none, none, none, none, none, none, none] = .nx s' ∧
    kill [10, 11, 5] s' = [some p, some m, some (.int n), some w, none, none, some tn, some fr, some l, some (.int a), none, none, none, none, none, none, none, none, none] := by
  have i1 := is_colouring_ok (n : Int) d T
  have i2 := is_colouring_ok a d T
  have j1 := is_one_ok (n : Int) d T
  have j2 := is_one_ok a d T
  rw [← col_one] at j1 j2
  have rd := P.re (by omega)
  have od := P.okS 60
  obtain ⟨b1, hb1⟩ : ∃ b, isColB n d = b := ⟨_, rfl⟩
  obtain ⟨b2, hb2⟩ : ∃ b, isColB a d = b := ⟨_, rfl⟩
  rw [hb1] at i1 j1
  rw [hb2] at i2 j2
  have pb : ∀ o, Pl 60 10000 (.lst o [.bl b1, .bl b2]) := fun o => pl_bls o [b1, b2] (by simp)
  have r1 := (pb true).re (by omega)
  have r2 := (pb false).re (by omega)
  have ok := (pb true).okS 60
  have r3 : showD (.lst false [.bl b1, .bl b2]) = showD (.lst true [.bl b1, .bl b2]) := rfl
  obtain ⟨z, hz⟩ : ∃ z, showD (.lst true [.bl b1, .bl b2]) = z := ⟨_, rfl⟩
  rw [hz] at ok r3
  obtain ⟨y, hy⟩ : ∃ z, showD d = z := ⟨_, rfl⟩
  rw [hy] at od
  have hf := T.fz
  have hno : noOwn d = true := by rw [← hf]; exact fz_noOwn d
  refine ⟨_, by simp [lp7, fnM, sSeq, sIf, sAsg, sRet, sExpr, sNil, sPar, puts, tst, eOp, aCons, aNil, xN, xC, xMv, xS, xNot, xAnd, xOr, xIf, xInt, xL, tAndM, tOrM, tNotM, tTrue, fz, fzs, noOwn, noOwns, noFz, noFzs, fIx, fCmp, fI2, fI2c, fAdd, fSub, fMul, fMod, fDiv, fPow, fNeg, fAbs, fMax, fMin, fInt, fLen, fTup, fLst, fDivmod, fInts, cMul, cDiv, cPow, gTp, gsCons, gsNil, gSb, gNm, pNm, pIx, slP, getP, setP, mSet, mAppend, mPopAt, ownL, isLst, eMu, eMuG, L2.ixN, L2.atI, pickIO, putIO, mkAr, xCall, xCallE, xCallT, bVl, bPl, bNil, kill, iSeq, iR1, iR2, iEn, iZp, sFor, fits, i62_eq, i64_eq, ltI_eq, fzs_ints, noOwns_ints, noFzs_ints, okD_ints, ints_map, fEq, fNe, okI, okL, eqD_int, eqD_ints, eqD_nil, hf, hno, i1, i2, j1, j2, permL, fRepr, rd, hy, od, r1, r2, r3, hz, ok, eqD_str]; rfl, rfl⟩
end Wk30
namespace Wk30
open PySem PySem.Spec VL
theorem q7_eq : q7__law_right = sFor (iSeq (eOp (aCons (xS 6) (aCons (xCallE [0] fr__law_near (bPl 0 (bVl (xS 6) bNil))) (aCons (xCallE [0] fr__law_near (bPl 1 (bVl (xS 7) bNil))) aNil))) fTup)) (gNm 10) lp7 [10, 11, 5] := rfl
theorem step7 {p m w tt l : D} {n : Nat} {a : Int} {o : Bool} {t f : List Int} (hp : Pot p) (hm : Pot m) (hn : n ≤ 24) (ht : t.length = n) (hf : f.length = n) (ct : Col t) (cf : Col f) : ∃ p' m',
    q7__law_right [some p, some m, some (.int n), some w, none, some tt, some (.lst o (t.map D.int)), some (.lst true (f.map D.int)), some l, some (.int a), none, none, none, none, none, none, none, none, none] = .nx [some p', some m', some (.int n), some w, none, none, some (.lst false (t.map D.int)), some (.lst false (f.map D.int)), some l, some (.int a), none, none, none, none, none, none, none, none, none] := by
  have bt : ∀ c ∈ t, 0 ≤ c ∧ c < 1000 := fun c hc => by have := col_lt ct c hc; omega
  have bf : ∀ c ∈ f, 0 ≤ c ∧ c < 1000 := fun c hc => by have := col_lt cf c hc; omega
  obtain ⟨d1, p1, e1, hp1, g1⟩ := near_ok hp bt (by omega)
  obtain ⟨d2, m1, e2', hm1, g2⟩ := near_ok hm bf (by omega)
  refine ⟨p1, m1, ?_⟩
  rw [q7_eq]
  obtain ⟨s1, h1, k1⟩ := lp7_ok (p := p1) (m := m1) (w := w) (tn := .lst false (t.map D.int)) (fr := .lst false (f.map D.int)) (l := l) (n := n) (a := a) (x5 := none) (th_ints (t := t) (by omega)) (pl_ints false bt (by omega))
  obtain ⟨s2, h2, k2⟩ := lp7_ok (p := p1) (m := m1) (w := w) (tn := .lst false (t.map D.int)) (fr := .lst false (f.map D.int)) (l := l) (n := n) (a := a) (x5 := none) g1.th g1.pl.fz
  obtain ⟨s3, h3, k3⟩ := lp7_ok (p := p1) (m := m1) (w := w) (tn := .lst false (t.map D.int)) (fr := .lst false (f.map D.int)) (l := l) (n := n) (a := a) (x5 := none) g2.th g2.pl.fz
  have hit : iSeq (eOp (aCons (xS 6) (aCons (xCallE [0] fr__law_near (bPl 0 (bVl (xS 6) bNil))) (aCons (xCallE [0] fr__law_near (bPl 1 (bVl (xS 7) bNil))) aNil))) fTup) [some p, some m, some (.int n), some w, none, some tt, some (.lst o (t.map D.int)), some (.lst true (f.map D.int)), some l, some (.int a), none, none, none, none, none, none, none, none, none] =
      .ok [.lst false (t.map D.int), fz d1, fz d2] [some p1, some m1, some (.int n), some w, none, some tt, some (.lst false (t.map D.int)), some (.lst false (f.map D.int)), some l, some (.int a), none, none, none, none, none, none, none, none, none] true := by
    simp [fnM, sSeq, sIf, sAsg, sRet, sExpr, sNil, sPar, puts, tst, eOp, aCons, aNil, xN, xC, xMv, xS, xNot, xAnd, xOr, xIf, xInt, xL, tAndM, tOrM, tNotM, tTrue, fz, fzs, noOwn, noOwns, noFz, noFzs, fIx, fCmp, fI2, fI2c, fAdd, fSub, fMul, fMod, fDiv, fPow, fNeg, fAbs, fMax, fMin, fInt, fLen, fTup, fLst, fDivmod, fInts, cMul, cDiv, cPow, gTp, gsCons, gsNil, gSb, gNm, pNm, pIx, slP, getP, setP, mSet, mAppend, mPopAt, ownL, isLst, eMu, eMuG, L2.ixN, L2.atI, pickIO, putIO, mkAr, xCall, xCallE, xCallT, bVl, bPl, bNil, kill, iSeq, iR1, iR2, iEn, iZp, sFor, fits, i62_eq, i64_eq, ltI_eq, fzs_ints, noOwns_ints, noFzs_ints, okD_ints, ints_map, fEq, fNe, okI, okL, eqD_int, eqD_ints, eqD_nil, e1, e2']
  have n1 : ∀ d s, gNm 10 d s = some (s.set 10 (some d)) := fun _ _ => rfl
  unfold sFor
  rw [hit]
  show loopM (gNm 10) lp7 [10, 11, 5] _ _ = _
  simp only [loopM, n1, kill, List.set]
  rw [h1]
  simp only [kill] at k1 k2 k3
  simp only [k1, List.set]
  rw [h2]
  simp only [k2, List.set]
  rw [h3]
  simp only [k3]
def lp8 : MS := (sSeq (sAsg (eOp (aCons (xCall fr_is_finer (aCons (eOp (aCons (xN 12) (aCons (xC .non) (aCons (xC .non) aNil))) fSl) (aCons (eOp (aCons (xN 13) (aCons (xC .non) (aCons (xC .non) aNil))) fSl) aNil))) (aCons (xCall fr_keeps_sequence (aCons (eOp (aCons (xN 12) (aCons (xC .non) (aCons (xC .non) aNil))) fSl) (aCons (eOp (aCons (xN 13) (aCons (xC .non) (aCons (xC .non) aNil))) fSl) aNil))) aNil)) fLst) (gNm 5))
    (sIf (tst (e2 (e1 (xN 5) fRepr) (e1 (xCall fr__law_compared (aCons (xN 12) (aCons (xN 13) aNil))) fRepr) fNe)) (sRet (xC (.bl false))) sNil))
theorem cut_all (t : List Int) : cutD (t.map D.int) none none = t.map D.int := by
  simp [cutD, HT.sIx]
  exact List.take_of_length_le (by simp)
theorem lp8_ok {x0 x1 x2 x3 x5 x6 x7 x8 x9 : Option D} {u v : List Int} (hl : u.length = v.length) (hv : v.length ≤ 24) : ∃ s', lp8 [x0, x1, x2, x3, none, x5, x6, x7, x8, x9, none, none, some (.lst false (u.map D.int)), some (.lst false (v.map D.int)), none, none, none, none, none] = .nx s' ∧
    kill [12, 13, 5] s' = [x0, x1, x2, x3, none, none, x6, x7, x8, x9, none, none, none, none, none, none, none, none, none] := by
  have i1 := is_finer_ok u v hl (by omega)
  have i2 := keeps_ok u v hl
  have j := compared_ok u v hl
  rw [finer_eq u v hl] at i1
  rw [keeps_eq u v hl] at i2
  obtain ⟨b1, hb1⟩ : ∃ b, (((upto u.length).zip u).all fun p => ((upto u.length).zip u).all (fnP v p)) = b := ⟨_, rfl⟩
  obtain ⟨b2, hb2⟩ : ∃ b, (((upto u.length).zip u).all fun p => ((upto u.length).zip u).all (kpP v p)) = b := ⟨_, rfl⟩
  rw [hb1] at i1 j
  rw [hb2] at i2 j
  have pb : ∀ o, Pl 60 10000 (.lst o [.bl b1, .bl b2]) := fun o => pl_bls o [b1, b2] (by simp)
  have r1 := (pb true).re (by omega)
  have r2 := (pb false).re (by omega)
  have ok := (pb true).okS 60
  have r3 : showD (.lst false [.bl b1, .bl b2]) = showD (.lst true [.bl b1, .bl b2]) := rfl
  obtain ⟨z, hz⟩ : ∃ z, showD (.lst true [.bl b1, .bl b2]) = z := ⟨_, rfl⟩
  rw [hz] at ok r3
  refine ⟨_, by simp [lp8, fnM, sSeq, sIf, sAsg, sRet, sExpr, sNil, sPar, puts, tst, eOp, aCons, aNil, xN, xC, xMv, xS, xNot, xAnd, xOr, xIf, xInt, xL, tAndM, tOrM, tNotM, tTrue, fz, fzs, noOwn, noOwns, noFz, noFzs, fIx, fCmp, fI2, fI2c, fAdd, fSub, fMul, fMod, fDiv, fPow, fNeg, fAbs, fMax, fMin, fInt, fLen, fTup, fLst, fDivmod, fInts, cMul, cDiv, cPow, gTp, gsCons, gsNil, gSb, gNm, pNm, pIx, slP, getP, setP, mSet, mAppend, mPopAt, ownL, isLst, eMu, eMuG, L2.ixN, L2.atI, pickIO, putIO, mkAr, xCall, xCallE, xCallT, bVl, bPl, bNil, kill, iSeq, iR1, iR2, iEn, iZp, sFor, fits, i62_eq, i64_eq, ltI_eq, fzs_ints, noOwns_ints, noFzs_ints, okD_ints, ints_map, fEq, fNe, okI, okL, eqD_int, eqD_ints, eqD_nil, fSl, oI, cut_all, i1, i2, j, fRepr, r1, r2, r3, hz, ok, eqD_str]; rfl, rfl⟩
theorem q8_eq : q8__law_right = sFor (iSeq (eOp (aCons (eOp (aCons (xS 6) (aCons (xS 7) aNil)) fTup) (aCons (eOp (aCons (xS 7) (aCons (xS 6) aNil)) fTup) (aCons (eOp (aCons (xS 6) (aCons (xS 6) aNil)) fTup) aNil))) fTup)) (gTp 2 (gsCons (gNm 12) (gsCons (gNm 13) gsNil))) lp8 [12, 13, 5] := rfl
theorem step8 {x0 x1 x2 x3 x8 x9 : Option D} {t f : List Int} (ht : t.length ≤ 24) (hf : f.length = t.length) :
    q8__law_right [x0, x1, x2, x3, none, none, some (.lst false (t.map D.int)), some (.lst false (f.map D.int)), x8, x9, none, none, none, none, none, none, none, none, none] = .nx [x0, x1, x2, x3, none, none, some (.lst false (t.map D.int)), some (.lst false (f.map D.int)), x8, x9, none, none, none, none, none, none, none, none, none] := by
  rw [q8_eq]
  obtain ⟨s1, h1, k1⟩ := lp8_ok (x0 := x0) (x1 := x1) (x2 := x2) (x3 := x3) (x5 := none) (x6 := some (.lst false (t.map D.int))) (x7 := some (.lst false (f.map D.int))) (x8 := x8) (x9 := x9) (u := t) (v := f) (by omega) (by omega)
  obtain ⟨s2, h2, k2⟩ := lp8_ok (x0 := x0) (x1 := x1) (x2 := x2) (x3 := x3) (x5 := none) (x6 := some (.lst false (t.map D.int))) (x7 := some (.lst false (f.map D.int))) (x8 := x8) (x9 := x9) (u := f) (v := t) (by omega) (by omega)
  obtain ⟨s3, h3, k3⟩ := lp8_ok (x0 := x0) (x1 := x1) (x2 := x2) (x3 := x3) (x5 := none) (x6 := some (.lst false (t.map D.int))) (x7 := some (.lst false (f.map D.int))) (x8 := x8) (x9 := x9) (u := t) (v := t) (by omega) (by omega)
  have hit : iSeq (eOp (aCons (eOp (aCons (xS 6) (aCons (xS 7) aNil)) fTup) (aCons (eOp (aCons (xS 7) (aCons (xS 6) aNil)) fTup) (aCons (eOp (aCons (xS 6) (aCons (xS 6) aNil)) fTup) aNil))) fTup) [x0, x1, x2, x3, none, none, some (.lst false (t.map D.int)), some (.lst false (f.map D.int)), x8, x9, none, none, none, none, none, none, none, none, none] =
      .ok [.tup [.lst false (t.map D.int), .lst false (f.map D.int)], .tup [.lst false (f.map D.int), .lst false (t.map D.int)], .tup [.lst false (t.map D.int), .lst false (t.map D.int)]] [x0, x1, x2, x3, none, none, some (.lst false (t.map D.int)), some (.lst false (f.map D.int)), x8, x9, none, none, none, none, none, none, none, none, none] true := by
    simp [fnM, sSeq, sIf, sAsg, sRet, sExpr, sNil, sPar, puts, tst, eOp, aCons, aNil, xN, xC, xMv, xS, xNot, xAnd, xOr, xIf, xInt, xL, tAndM, tOrM, tNotM, tTrue, fz, fzs, noOwn, noOwns, noFz, noFzs, fIx, fCmp, fI2, fI2c, fAdd, fSub, fMul, fMod, fDiv, fPow, fNeg, fAbs, fMax, fMin, fInt, fLen, fTup, fLst, fDivmod, fInts, cMul, cDiv, cPow, gTp, gsCons, gsNil, gSb, gNm, pNm, pIx, slP, getP, setP, mSet, mAppend, mPopAt, ownL, isLst, eMu, eMuG, L2.ixN, L2.atI, pickIO, putIO, mkAr, xCall, xCallE, xCallT, bVl, bPl, bNil, kill, iSeq, iR1, iR2, iEn, iZp, sFor, fits, i62_eq, i64_eq, ltI_eq, fzs_ints, noOwns_ints, noFzs_ints, okD_ints, ints_map, fEq, fNe, okI, okL, eqD_int, eqD_ints, eqD_nil]
  have n1 : ∀ a b s, gTp 2 (gsCons (gNm 12) (gsCons (gNm 13) gsNil)) (.tup [a, b]) s = some ((s.set 12 (some a)).set 13 (some b)) := fun _ _ _ => rfl
  unfold sFor
  rw [hit]
  show loopM (gTp 2 (gsCons (gNm 12) (gsCons (gNm 13) gsNil))) lp8 [12, 13, 5] _ _ = _
  simp only [loopM, n1, kill, List.set]
  rw [h1]
  simp only [kill] at k1 k2 k3
  simp only [k1, List.set]
  rw [h2]
  simp only [k2, List.set]
  rw [h3]
  simp only [k3]
end Wk30
namespace Wk30
open PySem PySem.Spec VL
theorem step9 {x0 x1 x2 x3 x8 x9 : Option D} {t f : List Int} (ht : t.length ≤ 24) (hf : f.length = t.length) : ∃ tt : D,
    sSeq q9__law_right (sSeq q10__law_right r11__law_right) [x0, x1, x2, x3, none, none, some (.lst false (t.map D.int)), some (.lst false (f.map D.int)), x8, x9, none, none, none, none, none, none, none, none, none] = r11__law_right [x0, x1, x2, x3, none, some tt, some (.lst false (t.map D.int)), some (.lst false (f.map D.int)), x8, x9, none, none, none, none, none, none, none, none, none] := by
  have hl : t.length = f.length := hf.symm
  have i1 := is_finer_ok t f hl (by omega)
  have i2 := keeps_ok t f hl
  have j := compared_ok t f hl
  rw [finer_eq t f hl] at i1
  rw [keeps_eq t f hl] at i2
  obtain ⟨b1, hb1⟩ : ∃ b, (((upto t.length).zip t).all fun p => ((upto t.length).zip t).all (fnP f p)) = b := ⟨_, rfl⟩
  obtain ⟨b2, hb2⟩ : ∃ b, (((upto t.length).zip t).all fun p => ((upto t.length).zip t).all (kpP f p)) = b := ⟨_, rfl⟩
  rw [hb1] at i1 j
  rw [hb2] at i2 j
  have pb : ∀ o, Pl 60 10000 (.lst o [.bl b1, .bl b2]) := fun o => pl_bls o [b1, b2] (by simp)
  have r1 := (pb true).re (by omega)
  have r2 := (pb false).re (by omega)
  have ok := (pb true).okS 60
  have r3 : showD (.lst false [.bl b1, .bl b2]) = showD (.lst true [.bl b1, .bl b2]) := rfl
  obtain ⟨z, hz⟩ : ∃ z, showD (.lst true [.bl b1, .bl b2]) = z := ⟨_, rfl⟩
  rw [hz] at ok r3
  refine ⟨.lst true [.bl b1, .bl b2], ?_⟩
  simp [q9__law_right, q10__law_right, fnM, sSeq, sIf, sAsg, sRet, sExpr, sNil, sPar, puts, tst, eOp, aCons, aNil, xN, xC, xMv, xS, xNot, xAnd, xOr, xIf, xInt, xL, tAndM, tOrM, tNotM, tTrue, fz, fzs, noOwn, noOwns, noFz, noFzs, fIx, fCmp, fI2, fI2c, fAdd, fSub, fMul, fMod, fDiv, fPow, fNeg, fAbs, fMax, fMin, fInt, fLen, fTup, fLst, fDivmod, fInts, cMul, cDiv, cPow, gTp, gsCons, gsNil, gSb, gNm, pNm, pIx, slP, getP, setP, mSet, mAppend, mPopAt, ownL, isLst, eMu, eMuG, L2.ixN, L2.atI, pickIO, putIO, mkAr, xCall, xCallE, xCallT, bVl, bPl, bNil, kill, iSeq, iR1, iR2, iEn, iZp, sFor, fits, i62_eq, i64_eq, ltI_eq, fzs_ints, noOwns_ints, noFzs_ints, okD_ints, ints_map, fEq, fNe, okI, okL, eqD_int, eqD_ints, eqD_nil, permL, i1, i2, j, fRepr, r1, r2, r3, hz, ok, eqD_str]
def clF (l : List Int) : D := .lst false (l.map D.int)
theorem cl_facts (fs : List (List Int)) : fzs (fs.map clD) = fs.map clF ∧ fzs (fs.map clF) = fs.map clF ∧ noFzs (fs.map clD) = true ∧ noOwns (fs.map clF) = true := by
  refine ⟨fzs_cl fs, ?_, ?_, ?_⟩
  · rw [fzs_map, List.map_map]
    refine List.map_congr_left fun l _ => ?_
    simp [clF, fz, fzs_ints]
  · rw [noFzs_all, List.all_map, List.all_eq_true]
    intro l _
    simp [clD, noFz, noFzs_ints]
  · rw [noOwns_all, List.all_map, List.all_eq_true]
    intro l _
    simp [clF, noOwn, noOwns_ints]
theorem cells_bound (N : Nat) : ∀ (es : List (Int × Int)) (fs : List (List Int)), (∀ p ∈ es, 0 ≤ p.1 ∧ p.1 < 1000) → (∀ l ∈ fs, l.length + es.length ≤ N ∧ ∀ x ∈ l, 0 ≤ x ∧ x < 1000) → es.length ≤ N → ∀ l ∈ es.foldl putC fs, l.length ≤ N ∧ ∀ x ∈ l, 0 ≤ x ∧ x < 1000
  | [], fs, _, h, _ => fun l hl => by
    obtain ⟨h1, h2⟩ := h l hl
    exact ⟨by simpa using h1, h2⟩
  | p :: es, fs, he, h, hN => by
    rw [List.foldl_cons]
    simp only [List.length_cons] at hN h
    refine cells_bound N es (putC fs p) (fun q hq => he q (by simp [hq])) (fun l hl => ?_) (by omega)
    unfold putC at hl
    rcases List.mem_or_eq_of_mem_set hl with hl | rfl
    · obtain ⟨h1, h2⟩ := h l hl
      exact ⟨by omega, h2⟩
    · have hg : (fs.getD p.2.toNat []).length + (es.length + 1) ≤ N ∧ ∀ x ∈ fs.getD p.2.toNat [], 0 ≤ x ∧ x < 1000 := by
        by_cases hlt : p.2.toNat < fs.length
        · have : fs.getD p.2.toNat [] = fs[p.2.toNat] := by
            rw [List.getD_eq_getElem?_getD, List.getElem?_eq_getElem hlt]; rfl
          rw [this]
          exact h _ (List.getElem_mem hlt)
        · have : fs.getD p.2.toNat [] = [] := by
            rw [List.getD_eq_getElem?_getD, List.getElem?_eq_none (by omega)]; rfl
          rw [this]
          exact ⟨by simp; omega, by simp⟩
      obtain ⟨g1, g2⟩ := hg
      refine ⟨by rw [List.length_append]; simp only [List.length_singleton]; omega, fun x hx => ?_⟩
      rcases List.mem_append.mp hx with hx | hx
      · exact g2 x hx
      · rw [List.mem_singleton] at hx
        rw [hx]
        exact he p (by simp)
structure Cs (t : List Int) : Prop where
  len : (cells t).length = many t
  le : many t ≤ t.length
  mem : ∀ l ∈ cells t, l.length ≤ 24 ∧ ∀ x ∈ l, 0 ≤ x ∧ x < 1000
  mx : (many t : Int) = maxI (-1 :: t) + 1
theorem cells_cs {t : List Int} (ct : Col t) (ht : t.length ≤ 24) : Cs t := by
  refine ⟨by unfold cells; rw [putC_length]; simp, (many_col ct).2.2, ?_, ?_⟩
  · unfold cells
    refine cells_bound 24 _ _ (fun p hp => ?_) (fun l hl => ?_) (by rw [List.length_zip]; omega)
    · have := enum_mem hp
      omega
    · have := List.eq_of_mem_replicate hl
      subst this
      refine ⟨?_, by simp⟩
      rw [List.length_zip]
      simp
      omega
  · have := (maxI_spec (-1 :: t) (by simp)).2 (-1) (by simp)
    unfold many
    omega
theorem pl_cls {k : Nat} {o : Bool} {fs : List (List Int)} (h : ∀ l ∈ fs, l.length ≤ 24 ∧ ∀ x ∈ l, 0 ≤ x ∧ x < 1000) (hl : fs.length ≤ 24) : Pl (k + 2) 60000 (.lst o (fs.map clF)) := by
  show Pl (k + 1 + 1) 60000 (.lst o (fs.map clF))
  simp only [Pl]
  refine ⟨2475, fun x hx => ?_, by simp; omega⟩
  obtain ⟨l, hl, rfl⟩ := List.mem_map.mp hx
  obtain ⟨h1, h2⟩ := h l hl
  exact Pl.ints false (fun i hi => by have := h2 i hi; omega) (by omega)
end Wk30
namespace Wk30
open PySem PySem.Spec VL
theorem step11 {x0 x1 x2 x3 x5 x7 x8 x9 : Option D} {t : List Int} (ht : t.length ≤ 24) (ct : Col t) :
    q11__law_right [x0, x1, x2, x3, none, x5, some (.lst false (t.map D.int)), x7, x8, x9, none, none, none, none, none, none, none, none, none] = .nx [x0, x1, x2, x3, none, x5, some (.lst false (t.map D.int)), x7, x8, x9, none, none, none, none, some (.lst true ((cells t).map clD)), none, none, none, none] := by
  have h1 := law_cells_ok t (by omega)
  rw [cells_eq ct] at h1
  simp [q11__law_right, fnM, sSeq, sIf, sAsg, sRet, sExpr, sNil, sPar, puts, tst, eOp, aCons, aNil, xN, xC, xMv, xS, xNot, xAnd, xOr, xIf, xInt, xL, tAndM, tOrM, tNotM, tTrue, fz, fzs, noOwn, noOwns, noFz, noFzs, fIx, fCmp, fI2, fI2c, fAdd, fSub, fMul, fMod, fDiv, fPow, fNeg, fAbs, fMax, fMin, fInt, fLen, fTup, fLst, fDivmod, fInts, cMul, cDiv, cPow, gTp, gsCons, gsNil, gSb, gNm, pNm, pIx, slP, getP, setP, mSet, mAppend, mPopAt, ownL, isLst, eMu, eMuG, L2.ixN, L2.atI, pickIO, putIO, mkAr, xCall, xCallE, xCallT, bVl, bPl, bNil, kill, iSeq, iR1, iR2, iEn, iZp, sFor, fits, i62_eq, i64_eq, ltI_eq, fzs_ints, noOwns_ints, noFzs_ints, okD_ints, ints_map, fEq, fNe, okI, okL, eqD_int, eqD_ints, eqD_nil, h1]
theorem step12 {x0 x1 x2 x3 x5 x6 x7 x8 x9 : Option D} {fs : List (List Int)} (hl : fs.length ≤ 1000) :
    q12__law_right [x0, x1, x2, x3, none, x5, x6, x7, x8, x9, none, none, none, none, some (.lst true (fs.map clD)), none, none, none, none] = .nx [x0, x1, x2, x3, none, x5, x6, x7, x8, x9, none, none, none, none, some (.lst false (fs.map clF)), some (.lst true ((fs.map fun l => (l.length : Int)).map D.int)), none, none, none] := by
  obtain ⟨c1, c2, c3, c4⟩ := cl_facts fs
  obtain ⟨B, hB⟩ : ∃ B, B = fs.map clD := ⟨_, rfl⟩
  obtain ⟨A, hA⟩ : ∃ A, A = fs.map clF := ⟨_, rfl⟩
  obtain ⟨S, hS⟩ : ∃ S, S = (fs.map fun l => (l.length : Int)) := ⟨_, rfl⟩
  have h2 := lcM_map (g := gNm 16) (me := VL.e1 (xN 16) fLen) (own := [16]) (s := [x0, x1, x2, x3, none, x5, x6, x7, x8, x9, none, none, none, none, some (.lst false A), none, none, none, none]) (f := fun d => match d with
    | .lst _ xs => .int xs.length
    | d => d) (items := A) (acc := []) (e := false) (fun d hd => by
      rw [hA] at hd
      obtain ⟨l, hl, rfl⟩ := List.mem_map.mp hd
      refine ⟨[x0, x1, x2, x3, none, x5, x6, x7, x8, x9, none, none, none, none, some (.lst false A), none, some (clF l), none, none], [x0, x1, x2, x3, none, x5, x6, x7, x8, x9, none, none, none, none, some (.lst false A), none, some (clF l), none, none], true, rfl, ?_, by simp [clF, noFz], rfl⟩
      simp [fnM, sSeq, sIf, sAsg, sRet, sExpr, sNil, sPar, puts, tst, eOp, aCons, aNil, xN, xC, xMv, xS, xNot, xAnd, xOr, xIf, xInt, xL, tAndM, tOrM, tNotM, tTrue, fz, fzs, noOwn, noOwns, noFz, noFzs, fIx, fCmp, fI2, fI2c, fAdd, fSub, fMul, fMod, fDiv, fPow, fNeg, fAbs, fMax, fMin, fInt, fLen, fTup, fLst, fDivmod, fInts, cMul, cDiv, cPow, gTp, gsCons, gsNil, gSb, gNm, pNm, pIx, slP, getP, setP, mSet, mAppend, mPopAt, ownL, isLst, eMu, eMuG, L2.ixN, L2.atI, pickIO, putIO, mkAr, xCall, xCallE, xCallT, bVl, bPl, bNil, kill, iSeq, iR1, iR2, iEn, iZp, sFor, fits, i62_eq, i64_eq, ltI_eq, fzs_ints, noOwns_ints, noFzs_ints, okD_ints, ints_map, fEq, fNe, okI, okL, eqD_int, eqD_ints, eqD_nil, clF]) (by rw [hA]; simp; omega)
  have h3 : (A.map fun d => match d with
    | .lst _ xs => .int xs.length
    | d => d) = S.map D.int := by
    rw [hA, hS]
    simp [Function.comp_def, clF]
  rw [h3] at h2
  rw [← hB] at c1 c3
  rw [← hA] at c1 c2 c4
  rw [← hA, ← hB, ← hS]
  simp at h2
  simp [q12__law_right, fnM, sSeq, sIf, sAsg, sRet, sExpr, sNil, sPar, puts, tst, eOp, aCons, aNil, xN, xC, xMv, xS, xNot, xAnd, xOr, xIf, xInt, xL, tAndM, tOrM, tNotM, tTrue, fz, fzs, noOwn, noOwns, noFz, noFzs, fIx, fCmp, fI2, fI2c, fAdd, fSub, fMul, fMod, fDiv, fPow, fNeg, fAbs, fMax, fMin, fInt, fLen, fTup, fLst, fDivmod, fInts, cMul, cDiv, cPow, gTp, gsCons, gsNil, gSb, gNm, pNm, pIx, slP, getP, setP, mSet, mAppend, mPopAt, ownL, isLst, eMu, eMuG, L2.ixN, L2.atI, pickIO, putIO, mkAr, xCall, xCallE, xCallT, bVl, bPl, bNil, kill, iSeq, iR1, iR2, iEn, iZp, sFor, fits, i62_eq, i64_eq, ltI_eq, fzs_ints, noOwns_ints, noFzs_ints, okD_ints, ints_map, fEq, fNe, okI, okL, eqD_int, eqD_ints, eqD_nil, xLc, c1, c2, c3, c4, h2]
theorem step13 {x0 x1 x3 x7 x8 x9 : Option D} {t : List Int} (ht : t.length ≤ 24) (ct : Col t) :
    sSeq q13__law_right (sSeq q14__law_right (sSeq q15__law_right r16__law_right)) [x0, x1, some (.int t.length), x3, none, x5, some (.lst false (t.map D.int)), x7, x8, x9, none, none, none, none, some (.lst false ((cells t).map clF)), some (.lst true (((cells t).map fun l => (l.length : Int)).map D.int)), none, none, none] =
    r16__law_right [x0, x1, some (.int t.length), x3, none, none, some (.lst false (t.map D.int)), x7, x8, x9, none, none, none, none, some (.lst false ((cells t).map clF)), some (.lst true (((cells t).map fun l => (l.length : Int)).map D.int)), none, none, none] := by
  have cs := cells_cs ct ht
  have bt : ∀ c ∈ t, 0 ≤ c ∧ c < 1000 := fun c hc => by have := col_lt ct c hc; omega
  have h1 := cells_of_ok t (by omega) bt
  have hcl := cs.len
  have hle := cs.le
  have h2 := trace_of_ok t (by omega) bt (by omega)
  have h3 := is_discrete_ok t (by omega)
  have hmx := cs.mx
  have hd : decide (((cells t).length : Int) = (t.length : Int)) = decide (maxI (-1 :: t) + 1 = t.length) := by rw [hcl, hmx]
  obtain ⟨b, hb⟩ : ∃ b, decide (maxI (-1 :: t) + 1 = (t.length : Int)) = b := ⟨_, rfl⟩
  rw [hb] at h3 hd
  have hmem := cs.mem
  have hlen : (cells t).length ≤ 24 := by omega
  generalize cells t = fs at h1 h2 hd hmem hlen
  obtain ⟨c1, c2, c3, c4⟩ := cl_facts fs
  have p1 : ∀ o, Pl 59 70000 (.lst o (fs.map clF)) := fun o => (pl_cls (k := 57) (o := o) hmem hlen).mono (by omega)
  have pS : ∀ o, Pl 59 70000 (.lst o ((fs.map fun l => (l.length : Int)).map D.int)) := fun o => Pl.ints (k := 58) o (fun i hi => by
    obtain ⟨l, hl, rfl⟩ := List.mem_map.mp hi
    have := (hmem l hl).1
    omega) (by simp; omega)
  have hl16 : loopN (gNm 16) (sExpr (eMu 16 (pNm 16) (aCons (xC .non) aNil) mAppend)) [16] (fs.map clD) [x0, x1, some (.int t.length), x3, none, none, some (.lst false (t.map D.int)), x7, x8, x9, none, none, none, none, some (.lst false (fs.map clF)), some (.lst true ((fs.map fun l => (l.length : Int)).map D.int)), none, none, none] = .nx [x0, x1, some (.int t.length), x3, none, none, some (.lst false (t.map D.int)), x7, x8, x9, none, none, none, none, some (.lst false (fs.map clF)), some (.lst true ((fs.map fun l => (l.length : Int)).map D.int)), none, none, none] := by
    generalize fs.map clF = A
    generalize (fs.map fun l => (l.length : Int)).map D.int = S
    clear hd h1 h2 c1 c2 c3 c4 p1 pS hlen
    induction fs with
    | nil => simp [loopN]
    | cons l fs ih =>
      have ih := ih (fun x hx => hmem x (by simp [hx]))
      have := (hmem l (by simp)).1
      have hfl : l.length ≤ 16777215 := by omega
      simp [loopN, fnM, sSeq, sIf, sAsg, sRet, sExpr, sNil, sPar, puts, tst, eOp, aCons, aNil, xN, xC, xMv, xS, xNot, xAnd, xOr, xIf, xInt, xL, tAndM, tOrM, tNotM, tTrue, fz, fzs, noOwn, noOwns, noFz, noFzs, fIx, fCmp, fI2, fI2c, fAdd, fSub, fMul, fMod, fDiv, fPow, fNeg, fAbs, fMax, fMin, fInt, fLen, fTup, fLst, fDivmod, fInts, cMul, cDiv, cPow, gTp, gsCons, gsNil, gSb, gNm, pNm, pIx, slP, getP, setP, mSet, mAppend, mPopAt, ownL, isLst, eMu, eMuG, L2.ixN, L2.atI, pickIO, putIO, mkAr, xCall, xCallE, xCallT, bVl, bPl, bNil, kill, iSeq, iR1, iR2, iEn, iZp, sFor, fits, i62_eq, i64_eq, ltI_eq, fzs_ints, noOwns_ints, noFzs_ints, okD_ints, ints_map, fEq, fNe, okI, okL, eqD_int, eqD_ints, eqD_nil, clD, hfl] at ih ⊢
      exact ih
  obtain ⟨S, hS⟩ : ∃ S, S = (fs.map fun l => (l.length : Int)) := ⟨_, rfl⟩
  obtain ⟨B, hB⟩ : ∃ B, B = fs.map clD := ⟨_, rfl⟩
  obtain ⟨A, hA⟩ : ∃ A, A = fs.map clF := ⟨_, rfl⟩
  have hBl : (A.length : Int) = fs.length := by rw [hA]; simp
  rw [← hBl] at hd
  rw [← hB] at c1 c3 h1 hl16
  rw [← hA] at c1 c2 c4 p1 hl16
  rw [← hS] at h2 pS hl16
  rw [← hA, ← hS]
  have pb : ∀ o o' o'', Pl 60 300000 (.lst o [.lst o' A, .lst o'' (S.map D.int), .bl b]) := fun o o' o'' => by
    show Pl (59 + 1) 300000 _
    simp only [Pl]
    refine ⟨70000, fun x hx => ?_, by simp⟩
    simp only [List.mem_cons, List.not_mem_nil, or_false] at hx
    rcases hx with rfl | rfl | rfl
    · exact p1 _
    · exact pS _
    · show (5 : Nat) ≤ 70000; omega
  have r1 := fun o o' o'' => (pb o o' o'').re (by omega)
  have ok := (pb true true true).okS 60
  have r3 : ∀ o o' o'', showD (.lst o [.lst o' A, .lst o'' (S.map D.int), .bl b]) = showD (.lst true [.lst true A, .lst true (S.map D.int), .bl b]) := fun _ _ _ => rfl
  obtain ⟨z, hz⟩ : ∃ z, showD (.lst true [.lst true A, .lst true (S.map D.int), .bl b]) = z := ⟨_, rfl⟩
  rw [hz] at ok
  simp only [hz] at r3
  simp [q13__law_right, q14__law_right, q15__law_right, fnM, sSeq, sIf, sAsg, sRet, sExpr, sNil, sPar, puts, tst, eOp, aCons, aNil, xN, xC, xMv, xS, xNot, xAnd, xOr, xIf, xInt, xL, tAndM, tOrM, tNotM, tTrue, fz, fzs, noOwn, noOwns, noFz, noFzs, fIx, fCmp, fI2, fI2c, fAdd, fSub, fMul, fMod, fDiv, fPow, fNeg, fAbs, fMax, fMin, fInt, fLen, fTup, fLst, fDivmod, fInts, cMul, cDiv, cPow, gTp, gsCons, gsNil, gSb, gNm, pNm, pIx, slP, getP, setP, mSet, mAppend, mPopAt, ownL, isLst, eMu, eMuG, L2.ixN, L2.atI, pickIO, putIO, mkAr, xCall, xCallE, xCallT, bVl, bPl, bNil, kill, iSeq, iR1, iR2, iEn, iZp, sFor, fits, i62_eq, i64_eq, ltI_eq, fzs_ints, noOwns_ints, noFzs_ints, okD_ints, ints_map, fEq, fNe, okI, okL, eqD_int, eqD_ints, eqD_nil, permL, h1, h2, h3, c1, c2, c3, c4, fRepr, r1, r3, ok, eqD_str, hd, sForN, itemsD, hl16]
end Wk30
namespace Wk30
open PySem PySem.Spec VL
theorem step16 {x0 x1 x2 x3 x7 x9 x14 x15 : Option D} {t l : List Int} {z : Str} (ht : t.length ≤ 24) (ct : Col t) (hl : l.length ≤ 24) (hb : ∀ c ∈ l, 0 ≤ c ∧ c < 1000) (hz : showD (.lst true [.lst false (t.map D.int), .lst false (l.map D.int)]) = z) :
    q16__law_right [x0, x1, x2, x3, none, none, some (.lst false (t.map D.int)), x7, some (.lst true (l.map D.int)), x9, none, none, none, none, x14, x15, none, none, none] = .nx [x0, x1, x2, x3, none, none, some (.lst false (t.map D.int)), x7, some (.lst true (l.map D.int)), x9, none, some (.str z), none, none, x14, x15, none, some (.lst true ((zeros t.length).map D.int)), none] := by
  have bt : ∀ c ∈ t, 0 ≤ c ∧ c < 1000 := fun c hc => by have := col_lt ct c hc; omega
  have h1 := lcM_ints (g := gNm 4) (me := xC (.int 0)) (own := [4]) (s := [x0, x1, x2, x3, none, none, some (.lst false (t.map D.int)), x7, some (.lst true (l.map D.int)), x9, none, none, none, none, x14, x15, none, none, none]) (ns := t) (ks := zeros t.length) (e := false) (fun _ => 0) (by rw [List.map_const']; rfl) (fun k hk => ⟨[x0, x1, x2, x3, some (.int k), none, some (.lst false (t.map D.int)), x7, some (.lst true (l.map D.int)), x9, none, none, none, none, x14, x15, none, none, none], [x0, x1, x2, x3, some (.int k), none, some (.lst false (t.map D.int)), x7, some (.lst true (l.map D.int)), x9, none, none, none, none, x14, x15, none, none, none], true, rfl, rfl, rfl⟩) (by omega)
  have pp : Pl 60 300000 (.lst true [.lst false (t.map D.int), .lst false (l.map D.int)]) := by
    show Pl (59 + 1) 300000 _
    simp only [Pl]
    refine ⟨70000, fun x hx => ?_, by simp⟩
    simp only [List.mem_cons, List.not_mem_nil, or_false] at hx
    rcases hx with rfl | rfl
    · exact (pl_ints (k := 58) false bt (by omega)).mono (by omega)
    · exact (pl_ints (k := 58) false hb (by omega)).mono (by omega)
  have r1 := pp.re (by omega)
  generalize zeros t.length = zs at h1
  simp [q16__law_right, fnM, sSeq, sIf, sAsg, sRet, sExpr, sNil, sPar, puts, tst, eOp, aCons, aNil, xN, xC, xMv, xS, xNot, xAnd, xOr, xIf, xInt, xL, tAndM, tOrM, tNotM, tTrue, fz, fzs, noOwn, noOwns, noFz, noFzs, fIx, fCmp, fI2, fI2c, fAdd, fSub, fMul, fMod, fDiv, fPow, fNeg, fAbs, fMax, fMin, fInt, fLen, fTup, fLst, fDivmod, fInts, cMul, cDiv, cPow, gTp, gsCons, gsNil, gSb, gNm, pNm, pIx, slP, getP, setP, mSet, mAppend, mPopAt, ownL, isLst, eMu, eMuG, L2.ixN, L2.atI, pickIO, putIO, mkAr, xCall, xCallE, xCallT, bVl, bPl, bNil, kill, iSeq, iR1, iR2, iEn, iZp, sFor, fits, i62_eq, i64_eq, ltI_eq, fzs_ints, noOwns_ints, noFzs_ints, okD_ints, ints_map, fEq, fNe, okI, okL, eqD_int, eqD_ints, eqD_nil, xLc, h1, fRepr, r1, hz]
theorem led_loop2 (num : List Int) (x0 x1 x2 x3 x6 x7 x9 x11 x14 x15 : Option D) (es : List (Int × Int)) (he : ∀ q ∈ es, 0 ≤ q.1 ∧ q.1 < num.length) (n : Nat) (hn : ∀ x ∈ num, 0 ≤ x ∧ x < n) (acc : List Int) (ha : acc.length = n) :
    loopM (gTp 2 (gsCons (gNm 4) (gsCons (gNm 18) gsNil))) (sAsg (xN 18) (gSb 17 (pNm 17) (e2 (xN 8) (xN 4) fIx))) [4, 18] (es.map prD) [x0, x1, x2, x3, none, none, x6, x7, some (.lst true (num.map D.int)), x9, none, x11, none, none, x14, x15, none, some (.lst true (acc.map D.int)), none] =
    .nx [x0, x1, x2, x3, none, none, x6, x7, some (.lst true (num.map D.int)), x9, none, x11, none, none, x14, x15, none, some (.lst true ((ledF num es acc).map D.int)), none] := by
  have h := loopM_fold (g := gTp 2 (gsCons (gNm 4) (gsCons (gNm 18) gsNil))) (body := sAsg (xN 18) (gSb 17 (pNm 17) (e2 (xN 8) (xN 4) fIx))) (dead := [4, 18]) (fun acc : List Int => [x0, x1, x2, x3, none, none, x6, x7, some (.lst true (num.map D.int)), x9, none, x11, none, none, x14, x15, none, some (.lst true (acc.map D.int)), none]) (fun acc d => acc.set (gt num (unD d).1).toNat (unD d).2) (fun acc => acc.length = n) (es.map prD) acc ha (fun d hd acc ha => by
    obtain ⟨q, hq, rfl⟩ := List.mem_map.mp hd
    have h1 := he q hq
    have g1 := gt_at h1.1 h1.2
    have hm : num[q.1.toNat]'(by omega) ∈ num := List.getElem_mem _
    have hx := hn _ hm
    have hx2 : (num[q.1.toNat]'(by omega)).toNat < acc.length := by omega
    have hx3 : num[q.1.toNat]'(by omega) < (acc.length : Int) := by omega
    rw [unD_prD, g1]
    refine ⟨by rw [List.length_set]; exact ha, [x0, x1, x2, x3, some (.int q.1), none, x6, x7, some (.lst true (num.map D.int)), x9, none, x11, none, none, x14, x15, none, some (.lst true (acc.map D.int)), some (.int q.2)], [x0, x1, x2, x3, some (.int q.1), none, x6, x7, some (.lst true (num.map D.int)), x9, none, x11, none, none, x14, x15, none, some (.lst true ((acc.set (num[q.1.toNat]'(by omega)).toNat q.2).map D.int)), some (.int q.2)], rfl, ?_, rfl⟩
    simp [fnM, sSeq, sIf, sAsg, sRet, sExpr, sNil, sPar, puts, tst, eOp, aCons, aNil, xN, xC, xMv, xS, xNot, xAnd, xOr, xIf, xInt, xL, tAndM, tOrM, tNotM, tTrue, fz, fzs, noOwn, noOwns, noFz, noFzs, fIx, fCmp, fI2, fI2c, fAdd, fSub, fMul, fMod, fDiv, fPow, fNeg, fAbs, fMax, fMin, fInt, fLen, fTup, fLst, fDivmod, fInts, cMul, cDiv, cPow, gTp, gsCons, gsNil, gSb, gNm, pNm, pIx, slP, getP, setP, mSet, mAppend, mPopAt, ownL, isLst, eMu, eMuG, L2.ixN, L2.atI, pickIO, putIO, mkAr, xCall, xCallE, xCallT, bVl, bPl, bNil, kill, iSeq, iR1, iR2, iEn, iZp, sFor, fits, i62_eq, i64_eq, ltI_eq, fzs_ints, noOwns_ints, noFzs_ints, okD_ints, ints_map, fEq, fNe, okI, okL, eqD_int, eqD_ints, eqD_nil, h1.1, h1.2, hx.1, hx2, hx3, List.map_set])
  rw [List.foldl_map] at h
  exact h.1
theorem step17 {x0 x1 x2 x3 x7 x9 x11 x14 x15 : Option D} {t l : List Int} (ht : t.length ≤ 24) (hl : l.length = t.length) (hb : ∀ c ∈ l, 0 ≤ c ∧ c < t.length) :
    q17__law_right [x0, x1, x2, x3, none, none, some (.lst false (t.map D.int)), x7, some (.lst true (l.map D.int)), x9, none, x11, none, none, x14, x15, none, some (.lst true ((zeros t.length).map D.int)), none] = .nx [x0, x1, x2, x3, none, none, some (.lst false (t.map D.int)), x7, some (.lst true (l.map D.int)), x9, none, x11, none, none, x14, x15, none, some (.lst true ((led t l).map D.int)), none] := by
  obtain ⟨es, hes⟩ : ∃ es, es = (upto t.length).zip t := ⟨_, rfl⟩
  have hm : ∀ q ∈ es, 0 ≤ q.1 ∧ q.1 < l.length := fun q hq => by
    rw [hes] at hq
    have := enum_mem hq
    rw [hl]
    exact ⟨this.1, this.2.1⟩
  have hen : enumD (t.map D.int) = es.map prD := by rw [enumD_ints, hes]; rfl
  have h2 := led_loop2 l x0 x1 x2 x3 (some (.lst false (t.map D.int))) x7 x9 x11 x14 x15 es hm t.length hb (zeros t.length) (by simp [zeros])
  have e : led t l = ledF l es (zeros t.length) := by rw [hes]; rfl
  rw [e]
  generalize ledF l es (zeros t.length) = r at h2
  generalize zeros t.length = zs at h2
  simp [q17__law_right, fnM, sSeq, sIf, sAsg, sRet, sExpr, sNil, sPar, puts, tst, eOp, aCons, aNil, xN, xC, xMv, xS, xNot, xAnd, xOr, xIf, xInt, xL, tAndM, tOrM, tNotM, tTrue, fz, fzs, noOwn, noOwns, noFz, noFzs, fIx, fCmp, fI2, fI2c, fAdd, fSub, fMul, fMod, fDiv, fPow, fNeg, fAbs, fMax, fMin, fInt, fLen, fTup, fLst, fDivmod, fInts, cMul, cDiv, cPow, gTp, gsCons, gsNil, gSb, gNm, pNm, pIx, slP, getP, setP, mSet, mAppend, mPopAt, ownL, isLst, eMu, eMuG, L2.ixN, L2.atI, pickIO, putIO, mkAr, xCall, xCallE, xCallT, bVl, bPl, bNil, kill, iSeq, iR1, iR2, iEn, iZp, sFor, fits, i62_eq, i64_eq, ltI_eq, fzs_ints, noOwns_ints, noFzs_ints, okD_ints, ints_map, fEq, fNe, okI, okL, eqD_int, eqD_ints, eqD_nil, hen, h2]
theorem ledF_inv (num : List Int) (P : Int → Prop) : ∀ (es : List (Int × Int)) (acc : List Int), (∀ p ∈ es, P p.2) → (∀ c ∈ acc, P c) → (ledF num es acc).length = acc.length ∧ ∀ c ∈ ledF num es acc, P c
  | [], acc, _, h => ⟨rfl, h⟩
  | p :: es, acc, he, h => by
    obtain ⟨i1, i2⟩ := ledF_inv num P es (acc.set (gt num p.1).toNat p.2) (fun q hq => he q (by simp [hq])) (fun c hc => by
      rcases List.mem_or_eq_of_mem_set hc with hc | rfl
      · exact h c hc
      · exact he p (by simp))
    exact ⟨by rw [show ledF num (p :: es) acc = ledF num es (acc.set (gt num p.1).toNat p.2) from rfl, i1, List.length_set], i2⟩
theorem step18 {x0 x1 x3 x7 x9 x15 : Option D} {t l : List Int} {z : Str} (ht : t.length ≤ 24) (ct : Col t) (hl : l.length = t.length) (hb : ∀ c ∈ l, 0 ≤ c ∧ c < t.length) (hz : showD (.lst true [.lst false (t.map D.int), .lst false (l.map D.int)]) = z) : ∃ s' : Sl,
    r18__law_right [x0, x1, some (.int t.length), x3, none, none, some (.lst false (t.map D.int)), x7, some (.lst true (l.map D.int)), x9, none, some (.str z), none, none, some (.lst false ((cells t).map clF)), x15, none, some (.lst true ((led t l).map D.int)), none] = .rt (.bl true) s' ∧ s'[0]? = some x0 ∧ s'[1]? = some x1 := by
  have cs := cells_cs ct ht
  have bt : ∀ c ∈ t, 0 ≤ c ∧ c < 1000 := fun c hc => by have := col_lt ct c hc; omega
  have bl : ∀ c ∈ l, 0 ≤ c ∧ c < 1000 := fun c hc => by have := hb c hc; omega
  have h1 := cells_of_ok t (by omega) bt
  have hcl := cs.len
  have hle := cs.le
  have hmem := cs.mem
  have hlen : (cells t).length ≤ 24 := by omega
  generalize cells t = fs at h1 hmem hlen
  obtain ⟨c1, c2, c3, c4⟩ := cl_facts fs
  have h2 := colouring_led_ok t l hl (by omega) hb
  have h3 := colouring_led_ok t (upto t.length) (upto_length _) (by omega) (fun x hx => mem_upto.mp hx)
  rw [led_id] at h3
  have hg : (gRg 0 (t.length : Int)) = (upto t.length).map D.int := gRg_upto _
  have hledl : (led t l).length = t.length ∧ ∀ c ∈ led t l, 0 ≤ c ∧ c < 1000 := by
    obtain ⟨i1, i2⟩ := ledF_inv l (fun c => 0 ≤ c ∧ c < 1000) ((upto t.length).zip t) (zeros t.length) (fun p hp => bt _ (List.of_mem_zip hp).2) (fun c hc => by
      have := List.eq_of_mem_replicate hc
      omega)
    exact ⟨by unfold led; rw [i1]; simp [zeros], i2⟩
  generalize led t l = r at h2 hledl
  generalize upto t.length = us at h3 hg
  obtain ⟨hrl, hrb⟩ := hledl
  have p1 : ∀ o, Pl 59 70000 (.lst o (fs.map clF)) := fun o => (pl_cls (k := 57) (o := o) hmem hlen).mono (by omega)
  have pt : ∀ o, Pl 59 70000 (.lst o (t.map D.int)) := fun o => (pl_ints (k := 58) o bt (by omega)).mono (by omega)
  have pl : ∀ o, Pl 59 70000 (.lst o (l.map D.int)) := fun o => (pl_ints (k := 58) o bl (by omega)).mono (by omega)
  have pr : ∀ o, Pl 59 70000 (.lst o (r.map D.int)) := fun o => (pl_ints (k := 58) o hrb (by omega)).mono (by omega)
  have two : ∀ {a b : D} o, Pl 59 70000 a → Pl 59 70000 b → Pl 60 300000 (.lst o [a, b]) := fun {a b} o ha hb => by
    show Pl (59 + 1) 300000 _
    simp only [Pl]
    refine ⟨70000, fun x hx => ?_, by simp⟩
    simp only [List.mem_cons, List.not_mem_nil, or_false] at hx
    rcases hx with rfl | rfl
    · exact ha
    · exact hb
  obtain ⟨B, hB⟩ : ∃ B, B = fs.map clD := ⟨_, rfl⟩
  obtain ⟨A, hA⟩ : ∃ A, A = fs.map clF := ⟨_, rfl⟩
  rw [← hB] at c1 c3 h1
  rw [← hA] at c1 c2 c4 p1
  rw [← hA]
  have reA := fun o o' o'' => (two o (p1 o') (pr o'')).re (by omega)
  have okA := (two true (p1 true) (pr true)).okS 60
  have shA : ∀ o o' o'', showD (.lst o [.lst o' A, .lst o'' (r.map D.int)]) = showD (.lst true [.lst true A, .lst true (r.map D.int)]) := fun _ _ _ => rfl
  obtain ⟨zA, hzA⟩ : ∃ z, showD (.lst true [.lst true A, .lst true (r.map D.int)]) = z := ⟨_, rfl⟩
  rw [hzA] at okA
  simp only [hzA] at shA
  have fB : fz (.lst true [.lst true B, .lst true (r.map D.int)]) = .lst false [.lst false A, .lst false (r.map D.int)] := by simp [fz, fzs, c1, fzs_ints]
  have reB : reOk (.lst true [.lst true B, .lst true (r.map D.int)]) = true := by rw [← reOk_fz, fB]; exact reA _ _ _
  have shB : showD (.lst true [.lst true B, .lst true (r.map D.int)]) = zA := by rw [← showD_fz, fB, shA]
  have reT := fun o o' o'' => (two o (pt o') (pr o'')).re (by omega)
  have okT := (two true (pt true) (pr true)).okS 60
  have shT : ∀ o o' o'', showD (.lst o [.lst o' (t.map D.int), .lst o'' (r.map D.int)]) = showD (.lst true [.lst true (t.map D.int), .lst true (r.map D.int)]) := fun _ _ _ => rfl
  obtain ⟨zT, hzT⟩ : ∃ z, showD (.lst true [.lst true (t.map D.int), .lst true (r.map D.int)]) = z := ⟨_, rfl⟩
  rw [hzT] at okT
  simp only [hzT] at shT
  have reL := fun o o' o'' => (two o (pt o') (pl o'')).re (by omega)
  have okL' := (two true (pt false) (pl false)).okS 60
  rw [hz] at okL'
  have hrg : rgOk 0 (t.length : Int) = true := by simp [rgOk, i62_eq, ltI_eq]; omega
  have htl : (t.map D.int).length ≤ 16777215 := by simp; omega
  have htl2 : t.length ≤ 16777215 := by omega
  refine ⟨_, by simp [r18__law_right, r19__law_right, r20__law_right, r21__law_right, r22__law_right, q18__law_right, q19__law_right, q20__law_right, q21__law_right, q22__law_right, fnM, sSeq, sIf, sAsg, sRet, sExpr, sNil, sPar, puts, tst, eOp, aCons, aNil, xN, xC, xMv, xS, xNot, xAnd, xOr, xIf, xInt, xL, tAndM, tOrM, tNotM, tTrue, fz, fzs, noOwn, noOwns, noFz, noFzs, fIx, fCmp, fI2, fI2c, fAdd, fSub, fMul, fMod, fDiv, fPow, fNeg, fAbs, fMax, fMin, fInt, fLen, fTup, fLst, fDivmod, fInts, cMul, cDiv, cPow, gTp, gsCons, gsNil, gSb, gNm, pNm, pIx, slP, getP, setP, mSet, mAppend, mPopAt, ownL, isLst, eMu, eMuG, L2.ixN, L2.atI, pickIO, putIO, mkAr, xCall, xCallE, xCallT, bVl, bPl, bNil, kill, iSeq, iR1, iR2, iEn, iZp, sFor, fits, i62_eq, i64_eq, ltI_eq, fzs_ints, noOwns_ints, noFzs_ints, okD_ints, ints_map, fEq, fNe, okI, okL, eqD_int, eqD_ints, eqD_nil, permL, fRg, hrg, hg, h1, h2, h3, c1, c2, c3, c4, fRepr, reB, shB, reA, okA, shA, reT, okT, shT, reL, okL', hz, eqD_str, htl2]; rfl, rfl, rfl⟩
end Wk30
namespace Wk30
open PySem PySem.Spec VL
theorem right_ok {p m : D} (hp : Pot p) (hm : Pot m) : ∃ p' m', fr__law_right [p, m] = .ok (.bl true) [p', m'] := by
  obtain ⟨n, m1, hm1, hn, s0⟩ := step0 (p := p) hm
  obtain ⟨k, m2, hm2, k0, k1, s1⟩ := step1 (p := p) (n := n) hm1
  obtain ⟨w, tt, s2⟩ := step23 (p := p) (m := m2) (n := n) k0 k1
  obtain ⟨t, p1, hp1, htn, ct, s4⟩ := step4 (m := m2) (w := w) (tt := tt) hp hn
  obtain ⟨o, f, m3, hm3, hfn, cf, s5⟩ := step5 (p := p1) (w := w) (tt := tt) hm2 hn htn
  obtain ⟨l, a, m4, hm4, hl, s6⟩ := step6 (p := p1) (w := w) (tt := tt) (tn := .lst o (t.map D.int)) (fr := .lst true (f.map D.int)) hm3 hn
  obtain ⟨p5, m5, s7⟩ := step7 (w := w) (tt := tt) (l := .lst true (l.map D.int)) (a := a) (o := o) hp1 hm4 hn htn hfn ct cf
  have s8 := step8 (x0 := some p5) (x1 := some m5) (x2 := some (.int n)) (x3 := some w) (x8 := some (.lst true (l.map D.int))) (x9 := some (.int a)) (t := t) (f := f) (by omega) (by omega)
  obtain ⟨t9, s9⟩ := step9 (x0 := some p5) (x1 := some m5) (x2 := some (.int n)) (x3 := some w) (x8 := some (.lst true (l.map D.int))) (x9 := some (.int a)) (t := t) (f := f) (by omega) (by omega)
  have cs := cells_cs ct (by omega)
  have s11 := step11 (x0 := some p5) (x1 := some m5) (x2 := some (.int n)) (x3 := some w) (x5 := some t9) (x7 := some (.lst false (f.map D.int))) (x8 := some (.lst true (l.map D.int))) (x9 := some (.int a)) (by omega) ct
  have s12 := step12 (x0 := some p5) (x1 := some m5) (x2 := some (.int n)) (x3 := some w) (x5 := some t9) (x6 := some (.lst false (t.map D.int))) (x7 := some (.lst false (f.map D.int))) (x8 := some (.lst true (l.map D.int))) (x9 := some (.int a)) (fs := cells t) (by have := cs.len; have := cs.le; omega)
  subst htn
  have s13 := step13 (x0 := some p5) (x1 := some m5) (x3 := some w) (x5 := some t9) (x7 := some (.lst false (f.map D.int))) (x8 := some (.lst true (l.map D.int))) (x9 := some (.int a)) hn ct
  have hll : l.length = t.length := by rw [hl.length_eq, upto_length]
  have hlb : ∀ c ∈ l, 0 ≤ c ∧ c < t.length := fun c hc => mem_upto.mp (hl.mem_iff.mp hc)
  obtain ⟨z, hz⟩ : ∃ z, showD (.lst true [.lst false (t.map D.int), .lst false (l.map D.int)]) = z := ⟨_, rfl⟩
  have s16 := step16 (x0 := some p5) (x1 := some m5) (x2 := some (.int t.length)) (x3 := some w) (x7 := some (.lst false (f.map D.int))) (x9 := some (.int a)) (x14 := some (.lst false ((cells t).map clF))) (x15 := some (.lst true (((cells t).map fun l => (l.length : Int)).map D.int))) hn ct (by omega) (fun c hc => by have := hlb c hc; omega) hz
  have s17 := step17 (x0 := some p5) (x1 := some m5) (x2 := some (.int t.length)) (x3 := some w) (x7 := some (.lst false (f.map D.int))) (x9 := some (.int a)) (x11 := some (.str z)) (x14 := some (.lst false ((cells t).map clF))) (x15 := some (.lst true (((cells t).map fun l => (l.length : Int)).map D.int))) hn hll hlb
  obtain ⟨s', s18, g0, g1⟩ := step18 (x0 := some p5) (x1 := some m5) (x3 := some w) (x7 := some (.lst false (f.map D.int))) (x9 := some (.int a)) (x15 := some (.lst true (((cells t).map fun l => (l.length : Int)).map D.int))) hn ct hll hlb hz
  refine ⟨p5, m5, ?_⟩
  have all : m__law_right [some p, some m, none, none, none, none, none, none, none, none, none, none, none, none, none, none, none, none, none] = .rt (.bl true) s' := by
    rw [r0_eq__law_right]
    unfold r0__law_right
    rw [seq_nx s0]
    unfold r1__law_right
    rw [seq_nx s1]
    unfold r2__law_right r3__law_right
    rw [s2]
    unfold r4__law_right
    rw [seq_nx s4]
    unfold r5__law_right
    rw [seq_nx s5]
    unfold r6__law_right
    rw [seq_nx s6]
    unfold r7__law_right
    rw [seq_nx s7]
    unfold r8__law_right
    rw [seq_nx s8]
    unfold r9__law_right r10__law_right
    rw [s9]
    unfold r11__law_right
    rw [seq_nx s11]
    unfold r12__law_right
    rw [seq_nx s12]
    unfold r13__law_right r14__law_right r15__law_right
    rw [s13]
    unfold r16__law_right
    rw [seq_nx s16]
    unfold r17__law_right
    rw [seq_nx s17]
    exact s18
  show fnM 19 [0, 1] m__law_right [p, m] = _
  unfold fnM
  have e : ([p, m].map some ++ List.replicate (19 - [p, m].length) none : Sl) = [some p, some m, none, none, none, none, none, none, none, none, none, none, none, none, none, none, none, none, none] := rfl
  rw [e, all]
  simp [pickIO, g0, g1]
theorem law_ok (ns : List Int) (hl : ns.length ≤ 63) : fr_law [.wl (ns.map D.int)] = .ok (.bl true) [] := by
  obtain ⟨p, h1, hp⟩ := pot_ok ns 0 (by omega)
  obtain ⟨m, h2, hm⟩ := pot_ok ns 1 (by omega)
  obtain ⟨p', m', h3⟩ := right_ok hp hm
  simp [fr_law, m_law, fnM, sSeq, sIf, sAsg, sRet, sExpr, sNil, sPar, puts, tst, eOp, aCons, aNil, xN, xC, xMv, xS, xNot, xAnd, xOr, xIf, xInt, xL, tAndM, tOrM, tNotM, tTrue, fz, fzs, noOwn, noOwns, noFz, noFzs, fIx, fCmp, fI2, fI2c, fAdd, fSub, fMul, fMod, fDiv, fPow, fNeg, fAbs, fMax, fMin, fInt, fLen, fTup, fLst, fDivmod, fInts, cMul, cDiv, cPow, gTp, gsCons, gsNil, gSb, gNm, pNm, pIx, slP, getP, setP, mSet, mAppend, mPopAt, ownL, isLst, eMu, eMuG, L2.ixN, L2.atI, pickIO, putIO, mkAr, xCall, xCallE, xCallT, bVl, bPl, bNil, kill, iSeq, iR1, iR2, iEn, iZp, sFor, fits, i62_eq, i64_eq, ltI_eq, fzs_ints, noOwns_ints, noFzs_ints, okD_ints, ints_map, fEq, fNe, okI, okL, eqD_int, eqD_ints, eqD_nil, xCallT, h1, h2, h3]
end Wk30
namespace Wk30
open PySem PySem.Spec PyProof.Rows L2 VL
abbrev RR : PySem.W.OpenRow := PySem.W.OpenLaw.row PySem.Challenge.rw_webnames_k30_any_value_as_colouring
abbrev hk : PySem.W.Hook := He.hookD 4 fa fn
def ob (s : PySem.W.SharedT) : He.AlD := He.obsDG 4 fa fn (HandSHeadRun.getT s)
theorem ob_eq (s : PySem.W.SharedT) : ob s = hk.obs s.abs := He.obsDG_eq (HandSHeadRun.getT_eq s)
def looseN : List Str := ["__name__", "is_integer", "is_count", "colour_many", "is_colouring", "cells_of", "trace_of", "is_discrete", "is_finer", "keeps_sequence", "colouring_led", "_law_pot", "_law_draw", "_law_row", "_law_ranked", "_law_tint", "_law_cells", "_law_near", "_law_is_one", "_law_compared", "_law_coarser", "_law_right"]
theorem run (w : World) : HandSHeadRun.RunEq RR (PySem.W.view RR.prog [24]) hk ob 4000 looseN w := by
  intro os
  kernel_rfl
end Wk30
open PySem PySem.W PySem.Calls PyProof.Rows
theorem PySem.Challenge.cw_webnames_k30_any_value_as_colouring_holds : PySem.Challenge.rw_webnames_k30_any_value_as_colouring.Holds := by
  w_on; o_law
  refine HandSHeadRun.head_any (r := OpenLaw.row PySem.Challenge.rw_webnames_k30_any_value_as_colouring) (q := view (OpenLaw.row PySem.Challenge.rw_webnames_k30_any_value_as_colouring).prog [24]) (H := Wk30.hk) (ob := Wk30.ob) (M := 4000) (loose := Wk30.looseN) (d := HandSHeadRun.topDef (OpenLaw.row PySem.Challenge.rw_webnames_k30_any_value_as_colouring).prog 24) (kwd := []) Wk30.ob_eq
    (by kernel_rfl) (fun s => by kernel_rfl) Wk30.run (by kernel_rfl) (by kernel_rfl) (by kernel_rfl) (by rfl) (by first | assumption | decide +kernel) (by decide +kernel) ⟨rfl, rfl, rfl, rfl, rfl, by decide +kernel⟩ ?hw ?hc
  case hw => w_witness2
  case hc =>
    refine VL.walk_G (l := PySem.Challenge.rw_webnames_k30_any_value_as_colouring) (n := 63) (k := 22) (x := "_law_script") rfl (by decide) (by kernel_rfl) ⟨rfl, by decide, by decide⟩ ?F
    intro w mg fa h Y G hmg0
    obtain ⟨K, KX, c⟩ := Y
    have hmg : mg ("law" : PySem.Str) = some (.ref fa) := by
      have e : (HandSHeadRun.topDef (OpenLaw.row PySem.Challenge.rw_webnames_k30_any_value_as_colouring).prog 24).name = ("law" : PySem.Str) := by kernel_rfl
      rw [← e]
      exact hmg0
    obtain ⟨f, fd, g, hb, hF⟩ := Wk30.facts (P := (PySem.Challenge.rw_webnames_k30_any_value_as_colouring).prog) (w := w) KX G c
    rw [hmg] at g
    cases g
    exact ⟨K, fd, VL.spV K mg 1 [] Wk30.fr_law, KX, hb, fun H a ns hl hO hS => VL.law_sp hO hS (Wk30.law_ok ns hl), fun bs _ _ => hF bs⟩
