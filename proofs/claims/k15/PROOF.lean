import PyProof.Rows.All
import Wide.All
import OpenK.AllK
import Wide.FinOn
import HandS.ForMost
import HandS.ForExc
import HandS.Wide
import HandS.Style
import HandS.Deep
import HandS.IsInst
import HandS.Conv
import HandS.SortInts
import HandS.More
import HandS.TupAny
import HandS.Finally
import HandS.DeepEq
import HandS.OwnEq
import HandS.Set
import HandS.Strs
import PyProof.Rows.SortShellAny
import PySem.Challenge.RW_bellferry_k15_behind_a_step
import KE.OsArith
import KE.BitLaws
import PyProof.P3Eq
set_option Elab.async false
set_option linter.all false
set_option maxRecDepth 100000
set_option maxHeartbeats 4000000
/-! # VL1: values as trees over the abstract heap -/
namespace VL
open PySem PySem.Spec PyProof.Rows L2
/-- the kind of a node -/
inductive Kd where
  | tup | lst
  | dct (ks : List Key)
  | ins (c : Str) (fs : List Str)
/-- a value as a tree; m: a list, a dict, an instance that its holder may change -/
inductive D where
  | non
  | bl (b : Bool)
  | int (i : Int)
  | str (x : Str)
  | nd (k : Kd) (m : Bool) (ds : List D)
instance : Inhabited D := ⟨.non⟩
abbrev D.tup (ds : List D) : D := .nd .tup false ds
abbrev D.lst (m : Bool) (ds : List D) : D := .nd .lst m ds
abbrev Slots := List (Option D)
/-- a list that is read: it stands in the region, or is the text's own -/
def FzL (K : PySem.W.Frag) (R : Addr → Prop) (H : Hp) (a : Addr) (xs : List V) : Prop :=
  (R a ∧ Rd H a (.lst xs)) ∨
    ∃ (o : Obj) (its : Array Value) (n : Nat), K.lookup a = some o ∧ o.cls = .type "list" ∧ o.dict = none ∧ o.data = .seq its n ∧ its.size ≤ sizeLine ∧ Vals xs its.toList
theorem FzL.seq {K : PySem.W.Frag} {R : Addr → Prop} {H : Hp} {a : Addr} {xs : List V} (h : FzL K R H a xs) : SqL K H a xs := by
  rcases h with ⟨_, h⟩ | h
  · exact .inl h
  · exact .inr h
structure Ct where
  K : PySem.W.Frag
  mg : Str → Option Value
/-- what stands at a node's address: R the region that never changes again, S' the children's own cells, S all -/
def Cell (C : Ct) (R : Addr → Prop) (H : Hp) : Kd → Bool → Addr → List V → List Addr → List Addr → Prop
  | .tup, _, a, vs, S', S => SqT C.K H a vs ∧ S = S'
  | .lst, true, a, vs, S', S => H a = some (.lst vs) ∧ S = a :: S'
  | .lst, false, a, vs, S', S => FzL C.K R H a vs ∧ S' = [] ∧ S = []
  | .dct ks, true, a, vs, S', S => (ks.length = vs.length ∧ ks.Nodup) ∧ H a = some (.dK (ks.zip vs)) ∧ S = a :: S'
  | .dct ks, false, a, vs, S', S => (ks.length = vs.length ∧ ks.Nodup) ∧ Rd H a (.dK (ks.zip vs)) ∧ R a ∧ S' = [] ∧ S = []
  | .ins c fs, true, a, vs, S', S => (∃ cl dx, C.mg c = some (.ref cl) ∧ fs.length = vs.length ∧ H a = some (.ins cl dx (fs.zip vs))) ∧ S = a :: S'
  | .ins c fs, false, a, vs, S', S => (∃ cl dx, C.mg c = some (.ref cl) ∧ fs.length = vs.length ∧ H a = some (.ins cl dx (fs.zip vs))) ∧ R a ∧ S' = [] ∧ S = []
mutual
def Rp (C : Ct) (R : Addr → Prop) (H : Hp) : D → V → List Addr → Prop
  | .non, v, S => v = .non ∧ S = []
  | .bl b, v, S => v = .bl b ∧ S = []
  | .int i, v, S => v = .int i ∧ S = []
  | .str x, v, S => v = .str x ∧ S = []
  | .nd k m ds, v, S => ∃ a vs S', v = .ref a ∧ Cell C R H k m a vs S' S ∧ RpL C R H ds vs S'
def RpL (C : Ct) (R : Addr → Prop) (H : Hp) : List D → List V → List Addr → Prop
  | [], vs, S => vs = [] ∧ S = []
  | d :: ds, vs, S => ∃ v vs' S1 S2, vs = v :: vs' ∧ S = S1 ++ S2 ∧ Rp C R H d v S1 ∧ RpL C R H ds vs' S2
end
mutual
/-- all that may be changed is frozen -/
def frz : D → D
  | .non => .non
  | .bl b => .bl b
  | .int i => .int i
  | .str x => .str x
  | .nd k _ ds => .nd k false (frzL ds)
def frzL : List D → List D
  | [] => []
  | d :: ds => frz d :: frzL ds
end
mutual
/-- nothing in it may be changed -/
def shr : D → Bool
  | .nd .tup _ ds => shrL ds
  | .nd _ m ds => !m && shrL ds
  | _ => true
def shrL : List D → Bool
  | [] => true
  | d :: ds => shr d && shrL ds
end
mutual
/-- nothing in it leans on the region -/
def own : D → Bool
  | .nd .tup _ ds => ownL ds
  | .nd _ m ds => m && ownL ds
  | _ => true
def ownL : List D → Bool
  | [] => true
  | d :: ds => own d && ownL ds
end
section
variable {C : Ct} {R R' : Addr → Prop} {H H' : Hp}
/-- tuples stay -/
def TupS (H H' : Hp) : Prop := ∀ a xs, Rd H a (.tup xs) → Rd H' a (.tup xs)
theorem TupS.sqt {K : PySem.W.Frag} {a : Addr} {xs : List V} (t : TupS H H') (h : SqT K H a xs) : SqT K H' a xs := by
  rcases h with h | h
  · exact .inl (t _ _ h)
  · exact .inr h
theorem rd_same (e : H' a = H a) {o : HO} (h : Rd H a o) : Rd H' a o := by
  rcases h with h | ⟨u, h⟩
  · exact .inl (e.trans h)
  · exact .inr ⟨u, e.trans h⟩
theorem same_tups (s : Same H H') : TupS H H' := fun a xs h => by
  rcases h with h | ⟨o, h⟩
  · exact .inl (s _ _ h)
  · exact .inr ⟨o, s _ _ h⟩
theorem Cell.fm {k : Kd} {m : Bool} {a : Addr} {vs : List V} {S' S : List Addr} (hR : ∀ a, R a → R' a ∧ H' a = H a) (ht : TupS H H') (hS : ∀ a ∈ S, H' a = H a)
    (h : Cell C R H k m a vs S' S) : Cell C R' H' k m a vs S' S := by
  cases k with
  | tup => exact ⟨ht.sqt h.1, h.2⟩
  | lst =>
    cases m with
    | true =>
      obtain ⟨h1, rfl⟩ := h
      exact ⟨(hS a (by simp)).trans h1, rfl⟩
    | false =>
      obtain ⟨h1, h2⟩ := h
      refine ⟨?_, h2⟩
      rcases h1 with ⟨r, h1⟩ | h1
      · exact .inl ⟨(hR a r).1, rd_same (hR a r).2 h1⟩
      · exact .inr h1
  | dct ks =>
    cases m with
    | true =>
      obtain ⟨h0, h1, rfl⟩ := h
      exact ⟨h0, (hS a (by simp)).trans h1, rfl⟩
    | false =>
      obtain ⟨h0, h1, r, h2⟩ := h
      exact ⟨h0, rd_same (hR a r).2 h1, (hR a r).1, h2⟩
  | ins c fs =>
    cases m with
    | true =>
      obtain ⟨⟨cl, dx, h0, h1, h2⟩, rfl⟩ := h
      exact ⟨⟨cl, dx, h0, h1, (hS a (by simp)).trans h2⟩, rfl⟩
    | false =>
      obtain ⟨⟨cl, dx, h0, h1, h2⟩, r, h3⟩ := h
      exact ⟨⟨cl, dx, h0, h1, (hR a r).2.trans h2⟩, (hR a r).1, h3⟩
/-- the children's cells are among the node's -/
theorem Cell.sub {k : Kd} {m : Bool} {a : Addr} {vs : List V} {S' S : List Addr} (h : Cell C R H k m a vs S' S) : ∀ b ∈ S', b ∈ S := by
  intro b hb
  cases k with
  | tup => rw [h.2]; exact hb
  | lst =>
    cases m with
    | true => rw [h.2]; exact List.mem_cons_of_mem _ hb
    | false => rw [h.2.1] at hb; cases hb
  | dct ks =>
    cases m with
    | true => rw [h.2.2]; exact List.mem_cons_of_mem _ hb
    | false => rw [h.2.2.2.1] at hb; cases hb
  | ins c fs =>
    cases m with
    | true => rw [h.2]; exact List.mem_cons_of_mem _ hb
    | false => rw [h.2.2.1] at hb; cases hb
mutual
theorem Rp.fm (hR : ∀ a, R a → R' a ∧ H' a = H a) (ht : TupS H H') : ∀ {d : D} {v : V} {S : List Addr}, (∀ a ∈ S, H' a = H a) → Rp C R H d v S → Rp C R' H' d v S
  | .non, _, _, _, h => h
  | .bl _, _, _, _, h => h
  | .int _, _, _, _, h => h
  | .str _, _, _, _, h => h
  | .nd k m ds, _, _, hS, h => by
    unfold Rp at h ⊢
    obtain ⟨a, vs, S', e, c, r⟩ := h
    exact ⟨a, vs, S', e, c.fm hR ht hS, RpL.fm hR ht (fun b hb => hS b (c.sub b hb)) r⟩
theorem RpL.fm (hR : ∀ a, R a → R' a ∧ H' a = H a) (ht : TupS H H') : ∀ {ds : List D} {vs : List V} {S : List Addr}, (∀ a ∈ S, H' a = H a) → RpL C R H ds vs S → RpL C R' H' ds vs S
  | [], _, _, _, h => by unfold RpL at h ⊢; exact h
  | d :: ds, _, _, hS, h => by
    unfold RpL at h ⊢
    obtain ⟨v, vs', S1, S2, e1, e2, h1, h2⟩ := h
    subst e2
    exact ⟨v, vs', S1, S2, e1, rfl, Rp.fm hR ht (fun b hb => hS b (List.mem_append_left _ hb)) h1, RpL.fm hR ht (fun b hb => hS b (List.mem_append_right _ hb)) h2⟩
end
/-- own cells are there, and no tuples -/
def IsOwn (H : Hp) (a : Addr) : Prop := (∃ xs, H a = some (.lst xs)) ∨ (∃ kvs, H a = some (.dK kvs)) ∨ ∃ cl dx fs, H a = some (.ins cl dx fs)
theorem IsOwn.some {a : Addr} (h : IsOwn H a) : H a ≠ none := by
  rcases h with ⟨_, h⟩ | ⟨_, h⟩ | ⟨_, _, _, h⟩ <;> rw [h] <;> exact fun z => by cases z
theorem IsOwn.noTup {a : Addr} (h : IsOwn H a) {xs : List V} (r : Rd H a (.tup xs)) : False := by
  rcases h with ⟨_, h⟩ | ⟨_, h⟩ | ⟨_, _, _, h⟩ <;> rcases r with r | ⟨_, r⟩ <;> rw [h] at r <;> cases r
mutual
theorem Rp.owns : ∀ {d : D} {v : V} {S : List Addr}, Rp C R H d v S → ∀ a ∈ S, IsOwn H a
  | .non, _, _, h => by rw [h.2]; simp
  | .bl _, _, _, h => by rw [h.2]; simp
  | .int _, _, _, h => by rw [h.2]; simp
  | .str _, _, _, h => by rw [h.2]; simp
  | .nd k m ds, _, S, h => by
    unfold Rp at h
    obtain ⟨a, vs, S', e, c, r⟩ := h
    have ih := RpL.owns r
    intro b hb
    cases k with
    | tup => rw [c.2] at hb; exact ih b hb
    | lst =>
      cases m with
      | true =>
        rw [c.2] at hb
        rcases List.mem_cons.mp hb with rfl | hb
        · exact .inl ⟨_, c.1⟩
        · exact ih b hb
      | false => rw [c.2.2] at hb; cases hb
    | dct ks =>
      cases m with
      | true =>
        rw [c.2.2] at hb
        rcases List.mem_cons.mp hb with rfl | hb
        · exact .inr (.inl ⟨_, c.2.1⟩)
        · exact ih b hb
      | false => rw [c.2.2.2.2] at hb; cases hb
    | ins cn fs =>
      cases m with
      | true =>
        rw [c.2] at hb
        rcases List.mem_cons.mp hb with rfl | hb
        · obtain ⟨cl, dx, _, _, z⟩ := c.1
          exact .inr (.inr ⟨_, _, _, z⟩)
        · exact ih b hb
      | false => rw [c.2.2.2] at hb; cases hb
theorem RpL.owns : ∀ {ds : List D} {vs : List V} {S : List Addr}, RpL C R H ds vs S → ∀ a ∈ S, IsOwn H a
  | [], _, _, h => by unfold RpL at h; rw [h.2]; simp
  | d :: ds, _, _, h => by
    unfold RpL at h
    obtain ⟨v, vs', S1, S2, e1, e2, h1, h2⟩ := h
    subst e2
    intro b hb
    rcases List.mem_append.mp hb with hb | hb
    · exact Rp.owns h1 b hb
    · exact RpL.owns h2 b hb
end
/-- a heap that only grows -/
theorem Rp.same {d : D} {v : V} {S : List Addr} (hd : ∀ a, R a → H a ≠ none) (s : Same H H') (h : Rp C R H d v S) : Rp C R H' d v S := by
  have at_ : ∀ a, H a ≠ none → H' a = H a := fun a ha => by
    cases e : H a with
    | none => exact absurd e ha
    | some o => exact s _ _ e
  exact Rp.fm (fun a r => ⟨r, at_ a (hd a r)⟩) (same_tups s) (fun a ha => at_ a (Rp.owns h a ha).some) h
theorem RpL.same {ds : List D} {vs : List V} {S : List Addr} (hd : ∀ a, R a → H a ≠ none) (s : Same H H') (h : RpL C R H ds vs S) : RpL C R H' ds vs S := by
  have at_ : ∀ a, H a ≠ none → H' a = H a := fun a ha => by
    cases e : H a with
    | none => exact absurd e ha
    | some o => exact s _ _ e
  exact RpL.fm (fun a r => ⟨r, at_ a (hd a r)⟩) (same_tups s) (fun a ha => at_ a (RpL.owns h a ha).some) h
mutual
theorem Rp.frz (hR : ∀ a, R a → R' a) : ∀ {d : D} {v : V} {S : List Addr}, (∀ a ∈ S, R' a) → Rp C R H d v S → Rp C R' H (frz d) v []
  | .non, _, _, _, h => ⟨h.1, rfl⟩
  | .bl _, _, _, _, h => ⟨h.1, rfl⟩
  | .int _, _, _, _, h => ⟨h.1, rfl⟩
  | .str _, _, _, _, h => ⟨h.1, rfl⟩
  | .nd k m ds, _, S, hS, h => by
    unfold Rp at h
    obtain ⟨a, vs, S', e, c, r⟩ := h
    have ih := RpL.frz hR (fun b hb => hS b (c.sub b hb)) r
    unfold VL.frz Rp
    refine ⟨a, vs, [], e, ?_, ih⟩
    cases k with
    | tup => exact ⟨c.1, rfl⟩
    | lst =>
      cases m with
      | true => exact ⟨.inl ⟨hS a (by rw [c.2]; simp), .inl c.1⟩, rfl, rfl⟩
      | false =>
        refine ⟨?_, rfl, rfl⟩
        rcases c.1 with ⟨r, z⟩ | z
        · exact .inl ⟨hR a r, z⟩
        · exact .inr z
    | dct ks =>
      cases m with
      | true => exact ⟨c.1, .inl c.2.1, hS a (by rw [c.2.2]; simp), rfl, rfl⟩
      | false => exact ⟨c.1, c.2.1, hR a c.2.2.1, rfl, rfl⟩
    | ins cn fs =>
      cases m with
      | true => exact ⟨c.1, hS a (by rw [c.2]; simp), rfl, rfl⟩
      | false => exact ⟨c.1, hR a c.2.1, rfl, rfl⟩
theorem RpL.frz (hR : ∀ a, R a → R' a) : ∀ {ds : List D} {vs : List V} {S : List Addr}, (∀ a ∈ S, R' a) → RpL C R H ds vs S → RpL C R' H (frzL ds) vs []
  | [], _, _, _, h => by unfold RpL at h; unfold VL.frzL RpL; exact ⟨h.1, rfl⟩
  | d :: ds, _, _, hS, h => by
    unfold RpL at h
    obtain ⟨v, vs', S1, S2, e1, e2, h1, h2⟩ := h
    subst e2
    unfold VL.frzL RpL
    exact ⟨v, vs', [], [], e1, rfl, Rp.frz hR (fun b hb => hS b (List.mem_append_left _ hb)) h1, RpL.frz hR (fun b hb => hS b (List.mem_append_right _ hb)) h2⟩
end
mutual
theorem Rp.shr : ∀ {d : D} {v : V} {S : List Addr}, shr d = true → Rp C R H d v S → S = []
  | .non, _, _, _, h => h.2
  | .bl _, _, _, _, h => h.2
  | .int _, _, _, _, h => h.2
  | .str _, _, _, _, h => h.2
  | .nd k m ds, _, S, q, h => by
    unfold Rp at h
    obtain ⟨a, vs, S', e, c, r⟩ := h
    cases k with
    | tup =>
      have z := RpL.shr (by unfold VL.shr at q; exact q) r
      rw [c.2]; exact z
    | lst => cases m with
      | true => unfold VL.shr at q; simp at q
      | false => exact c.2.2
    | dct ks => cases m with
      | true => unfold VL.shr at q; simp at q
      | false => exact c.2.2.2.2
    | ins cn fs => cases m with
      | true => unfold VL.shr at q; simp at q
      | false => exact c.2.2.2
theorem RpL.shr : ∀ {ds : List D} {vs : List V} {S : List Addr}, shrL ds = true → RpL C R H ds vs S → S = []
  | [], _, _, _, h => by unfold RpL at h; exact h.2
  | d :: ds, _, _, q, h => by
    unfold RpL at h
    obtain ⟨v, vs', S1, S2, e1, e2, h1, h2⟩ := h
    unfold VL.shrL at q
    rw [Bool.and_eq_true] at q
    rw [e2, Rp.shr q.1 h1, RpL.shr q.2 h2]
    rfl
end
mutual
theorem Rp.own : ∀ {d : D} {v : V} {S : List Addr}, own d = true → Rp C R H d v S → Rp C R' H d v S
  | .non, _, _, _, h => h
  | .bl _, _, _, _, h => h
  | .int _, _, _, _, h => h
  | .str _, _, _, _, h => h
  | .nd k m ds, _, S, q, h => by
    unfold Rp at h ⊢
    obtain ⟨a, vs, S', e, c, r⟩ := h
    cases k with
    | tup =>
      exact ⟨a, vs, S', e, c, RpL.own (by unfold VL.own at q; exact q) r⟩
    | lst => cases m with
      | true => exact ⟨a, vs, S', e, c, RpL.own (by unfold VL.own at q; simpa using q) r⟩
      | false => unfold VL.own at q; simp at q
    | dct ks => cases m with
      | true => exact ⟨a, vs, S', e, c, RpL.own (by unfold VL.own at q; simpa using q) r⟩
      | false => unfold VL.own at q; simp at q
    | ins cn fs => cases m with
      | true => exact ⟨a, vs, S', e, c, RpL.own (by unfold VL.own at q; simpa using q) r⟩
      | false => unfold VL.own at q; simp at q
theorem RpL.own : ∀ {ds : List D} {vs : List V} {S : List Addr}, ownL ds = true → RpL C R H ds vs S → RpL C R' H ds vs S
  | [], _, _, _, h => by unfold RpL at h ⊢; exact h
  | d :: ds, _, _, q, h => by
    unfold RpL at h ⊢
    obtain ⟨v, vs', S1, S2, e1, e2, h1, h2⟩ := h
    unfold VL.ownL at q
    rw [Bool.and_eq_true] at q
    exact ⟨v, vs', S1, S2, e1, e2, Rp.own q.1 h1, RpL.own q.2 h2⟩
end
theorem RpL.length : ∀ {ds : List D} {vs : List V} {S : List Addr}, RpL C R H ds vs S → ds.length = vs.length
  | [], _, _, h => by unfold RpL at h; rw [h.1]; rfl
  | d :: ds, _, _, h => by
    unfold RpL at h
    obtain ⟨v, vs', S1, S2, e1, e2, h1, h2⟩ := h
    rw [e1, List.length_cons, List.length_cons, RpL.length h2]
theorem RpL.get : ∀ {ds : List D} {vs : List V} {S : List Addr} {i : Nat} {d : D}, RpL C R H ds vs S → ds[i]? = some d → ∃ v S1, vs[i]? = some v ∧ Rp C R H d v S1
  | [], _, _, _, _, h, e => by simp at e
  | d :: ds, _, _, 0, _, h, e => by
    unfold RpL at h
    obtain ⟨v, vs', S1, S2, e1, e2, h1, h2⟩ := h
    simp at e
    subst e
    exact ⟨v, S1, by rw [e1]; rfl, h1⟩
  | d :: ds, _, _, i + 1, _, h, e => by
    unfold RpL at h
    obtain ⟨v, vs', S1, S2, e1, e2, h1, h2⟩ := h
    obtain ⟨w, T, q1, q2⟩ := RpL.get (i := i) h2 (by simpa using e)
    exact ⟨w, T, by rw [e1]; simpa using q1, q2⟩
theorem RpL.nil : RpL C R H [] [] [] := by unfold RpL; exact ⟨rfl, rfl⟩
theorem RpL.cons {d : D} {v : V} {ds : List D} {vs : List V} {S1 S2 : List Addr} (h1 : Rp C R H d v S1) (h2 : RpL C R H ds vs S2) : RpL C R H (d :: ds) (v :: vs) (S1 ++ S2) := by
  unfold RpL; exact ⟨v, vs, S1, S2, rfl, rfl, h1, h2⟩
theorem RpL.append : ∀ {ds : List D} {vs : List V} {S : List Addr} {es : List D} {ws : List V} {T : List Addr}, RpL C R H ds vs S → RpL C R H es ws T → RpL C R H (ds ++ es) (vs ++ ws) (S ++ T)
  | [], _, _, _, _, _, h, g => by
    unfold RpL at h
    rw [h.1, h.2]
    exact g
  | d :: ds, _, _, _, _, _, h, g => by
    unfold RpL at h
    obtain ⟨v, vs', S1, S2, e1, e2, h1, h2⟩ := h
    rw [e1, e2, List.append_assoc]
    exact RpL.cons h1 (RpL.append h2 g)
theorem RpL.split : ∀ {ds es : List D} {vs : List V} {S : List Addr}, RpL C R H (ds ++ es) vs S → ∃ v1 v2 S1 S2, vs = v1 ++ v2 ∧ S = S1 ++ S2 ∧ RpL C R H ds v1 S1 ∧ RpL C R H es v2 S2
  | [], es, vs, S, h => ⟨[], vs, [], S, rfl, rfl, RpL.nil, h⟩
  | d :: ds, es, _, _, h => by
    rw [List.cons_append] at h
    unfold RpL at h
    obtain ⟨v, vs', S1, S2, e1, e2, h1, h2⟩ := h
    obtain ⟨v1, v2, T1, T2, f1, f2, g1, g2⟩ := RpL.split h2
    exact ⟨v :: v1, v2, S1 ++ T1, T2, by rw [e1, f1]; rfl, by rw [e2, f2, List.append_assoc], RpL.cons h1 g1, g2⟩
theorem RpL.take {ds : List D} {vs : List V} {S : List Addr} (n : Nat) (h : RpL C R H ds vs S) : ∃ S1, RpL C R H (ds.take n) (vs.take n) S1 := by
  rw [← List.take_append_drop n ds] at h
  obtain ⟨v1, v2, S1, S2, e1, e2, h1, h2⟩ := h.split
  refine ⟨S1, ?_⟩
  have l := h1.length
  by_cases hn : n ≤ ds.length
  · rw [List.length_take, Nat.min_eq_left hn] at l
    rw [e1, List.take_left' l.symm]
    exact h1
  · have hn' : ds.length ≤ n := by omega
    have e3 : ds.drop n = [] := List.drop_of_length_le hn'
    rw [e3] at h2
    unfold RpL at h2
    have l2 : v1.length ≤ n := by rw [← l, List.length_take]; omega
    rw [e1, h2.1, List.append_nil, List.take_of_length_le l2]
    exact h1
theorem RpL.drop {ds : List D} {vs : List V} {S : List Addr} (n : Nat) (h : RpL C R H ds vs S) : ∃ S1, RpL C R H (ds.drop n) (vs.drop n) S1 := by
  rw [← List.take_append_drop n ds] at h
  obtain ⟨v1, v2, S1, S2, e1, e2, h1, h2⟩ := h.split
  refine ⟨S2, ?_⟩
  have l := h1.length
  by_cases hn : n ≤ ds.length
  · rw [List.length_take, Nat.min_eq_left hn] at l
    rw [e1, List.drop_left' l.symm]
    exact h2
  · have hn' : ds.length ≤ n := by omega
    have e3 : ds.drop n = [] := List.drop_of_length_le hn'
    rw [e3] at h2 ⊢
    unfold RpL at h2
    rw [e1, h2.1, List.append_nil, List.drop_of_length_le]
    · rw [h2.2]; exact RpL.nil
    · rw [← l, List.length_take]; omega
theorem shrL_mem : ∀ {ds : List D}, shrL ds = true → ∀ d ∈ ds, VL.shr d = true
  | [], _, _, h => by cases h
  | e :: ds, q, d, h => by
    unfold shrL at q
    rw [Bool.and_eq_true] at q
    rcases List.mem_cons.mp h with rfl | h
    · exact q.1
    · exact shrL_mem q.2 d h
theorem shrL_of : ∀ {ds : List D}, (∀ d ∈ ds, VL.shr d = true) → shrL ds = true
  | [], _ => rfl
  | e :: ds, h => by
    unfold shrL
    rw [Bool.and_eq_true]
    exact ⟨h e (by simp), shrL_of fun d hd => h d (List.mem_cons_of_mem _ hd)⟩
end
end VL
/-! # VL2: judgements without a heap -/
namespace VL
open PySem PySem.Spec PyProof.Rows L2
/-! ### slots -/
def RpO (C : Ct) (R : Addr → Prop) (H : Hp) : Option D → Option V → List Addr → Prop
  | none, _, S => S = []
  | some d, x, S => ∃ v, x = some v ∧ Rp C R H d v S
def RpS (C : Ct) (R : Addr → Prop) (H : Hp) : Slots → L2.St → List Addr → Prop
  | [], σ, S => σ = [] ∧ S = []
  | o :: s, σ, S => ∃ x σ' S1 S2, σ = x :: σ' ∧ S = S1 ++ S2 ∧ RpO C R H o x S1 ∧ RpS C R H s σ' S2
/-- what is wanted of an exception; what stays true of the slots (a method's own object) -/
structure Wi where
  w : WX
  me : L2.St → Prop
/-- a def's -/
def WD (E : XK) : Wi := ⟨fun cls d _ H => E cls d H, fun _ => True⟩
structure Rel (C : Ct) (W : Wi) (R : Addr → Prop) (H : Hp) (s : Slots) (σ : L2.St) (S : List Addr) : Prop where
  sl : RpS C R H s σ S
  nd : S.Nodup
  off : ∀ a ∈ S, ¬ R a
  dom : ∀ a, R a → H a ≠ none
  me : W.me σ
/-- what a piece of code leaves as it was -/
structure Fr (R : Addr → Prop) (S : List Addr) (H : Hp) (R' : Addr → Prop) (S' : List Addr) (H' : Hp) : Prop where
  out : ∀ a, H a ≠ none → a ∉ S → H' a = H a
  tup : TupS H H'
  rr : ∀ a, R a → R' a
  rn : ∀ a, R' a → R a ∨ a ∈ S ∨ H a = none
  sn : ∀ a ∈ S', a ∈ S ∨ H a = none
  dm : ∀ a, H a ≠ none → H' a ≠ none
inductive Rb (α : Type) where
  | ok (a : α) | err (c : Str) | stuck
inductive Ro where
  | ok (d : D) (s : Slots) | err (c : Str) (s : Slots) | stuck
inductive Out where
  | nx (s : Slots) | ret (d : D) (s : Slots) | brk (s : Slots) | ct (s : Slots) | err (c : Str) (s : Slots) | stuck
def Rb.bind {α β : Type} (x : Rb α) (k : α → Rb β) : Rb β := match x with
  | .ok a => k a
  | .err c => .err c
  | .stuck => .stuck
def Rb.of {α : Type} : Option α → Rb α
  | some a => .ok a
  | none => .stuck
@[simp] theorem Rb.bind_ok {α β : Type} (a : α) (k : α → Rb β) : (Rb.ok a).bind k = k a := id rfl
@[simp] theorem Rb.bind_err {α β : Type} (c : Str) (k : α → Rb β) : (Rb.err c : Rb α).bind k = .err c := id rfl
@[simp] theorem Rb.bind_stuck {α β : Type} (k : α → Rb β) : (Rb.stuck : Rb α).bind k = .stuck := id rfl
@[simp] theorem Rb.of_some {α : Type} (a : α) : Rb.of (some a) = .ok a := id rfl
@[simp] theorem Rb.of_none {α : Type} : Rb.of (none : Option α) = .stuck := id rfl
section
variable {C : Ct} {W : Wi} {R R' : Addr → Prop} {H H' : Hp} {s : Slots} {σ : L2.St} {S S' : List Addr}
theorem RpO.fm (hR : ∀ a, R a → R' a ∧ H' a = H a) (ht : TupS H H') {o : Option D} {x : Option V} (hS : ∀ a ∈ S, H' a = H a) (h : RpO C R H o x S) : RpO C R' H' o x S := by
  cases o with
  | none => exact h
  | some d =>
    obtain ⟨v, e, r⟩ := h
    exact ⟨v, e, r.fm hR ht hS⟩
theorem RpS.fm (hR : ∀ a, R a → R' a ∧ H' a = H a) (ht : TupS H H') : ∀ {s : Slots} {σ : L2.St} {S : List Addr}, (∀ a ∈ S, H' a = H a) → RpS C R H s σ S → RpS C R' H' s σ S
  | [], _, _, _, h => h
  | o :: s, _, _, hS, h => by
    obtain ⟨x, σ', S1, S2, e1, e2, h1, h2⟩ := h
    subst e2
    exact ⟨x, σ', S1, S2, e1, rfl, h1.fm hR ht (fun b hb => hS b (List.mem_append_left _ hb)), RpS.fm hR ht (fun b hb => hS b (List.mem_append_right _ hb)) h2⟩
theorem RpO.owns {o : Option D} {x : Option V} (h : RpO C R H o x S) : ∀ a ∈ S, IsOwn H a := by
  cases o with
  | none =>
    have e : S = [] := h
    rw [e]; simp
  | some d =>
    obtain ⟨v, e, r⟩ := h
    exact r.owns
theorem RpS.owns : ∀ {s : Slots} {σ : L2.St} {S : List Addr}, RpS C R H s σ S → ∀ a ∈ S, IsOwn H a
  | [], _, _, h => by rw [h.2]; simp
  | o :: s, _, _, h => by
    obtain ⟨x, σ', S1, S2, e1, e2, h1, h2⟩ := h
    subst e2
    intro b hb
    rcases List.mem_append.mp hb with hb | hb
    · exact h1.owns b hb
    · exact RpS.owns h2 b hb
theorem RpS.get : ∀ {s : Slots} {σ : L2.St} {S : List Addr} {i : Nat} {d : D}, RpS C R H s σ S → s[i]? = some (some d) → ∃ v S1, σ[i]? = some (some v) ∧ Rp C R H d v S1 ∧ ∀ a ∈ S1, a ∈ S
  | [], _, _, _, _, h, e => by simp at e
  | o :: s, _, _, 0, _, h, e => by
    obtain ⟨x, σ', S1, S2, e1, e2, h1, h2⟩ := h
    simp at e
    subst e
    obtain ⟨v, ev, r⟩ := h1
    exact ⟨v, S1, by rw [e1, ev]; rfl, r, fun a ha => by rw [e2]; exact List.mem_append_left _ ha⟩
  | o :: s, _, _, i + 1, _, h, e => by
    obtain ⟨x, σ', S1, S2, e1, e2, h1, h2⟩ := h
    obtain ⟨v, T, q1, q2, q3⟩ := RpS.get (i := i) h2 (by simpa using e)
    exact ⟨v, T, by rw [e1]; simpa using q1, q2, fun a ha => by rw [e2]; exact List.mem_append_right _ (q3 a ha)⟩
theorem at_of (s : Same H H') {a : Addr} (ha : H a ≠ none) : H' a = H a := by
  cases e : H a with
  | none => exact absurd e ha
  | some o => exact s _ _ e
theorem Rel.same (r : Rel C W R H s σ S) (k : Same H H') : Rel C W R H' s σ S :=
  ⟨r.sl.fm (fun a ra => ⟨ra, at_of k (r.dom a ra)⟩) (same_tups k) fun a ha => at_of k (r.sl.owns a ha).some, r.nd, r.off, fun a ra => by rw [at_of k (r.dom a ra)]; exact r.dom a ra, r.me⟩
theorem Fr.refl : Fr R S H R S H := ⟨fun _ _ _ => rfl, fun _ _ h => h, fun _ h => h, fun _ h => .inl h, fun _ h => .inl h, fun _ h => h⟩
theorem Fr.same (k : Same H H') (hS : ∀ a ∈ S', a ∈ S ∨ H a = none) : Fr R S H R S' H' :=
  ⟨fun a ha _ => at_of k ha, same_tups k, fun _ h => h, fun _ h => .inl h, hS, fun a ha => by rw [at_of k ha]; exact ha⟩
theorem Fr.trans {R1 R2 : Addr → Prop} {H1 H2 : Hp} {S1 S2 : List Addr} (a : Fr R S H R1 S1 H1) (b : Fr R1 S1 H1 R2 S2 H2) : Fr R S H R2 S2 H2 := by
  have nn : ∀ x, H1 x = none → H x = none := fun x hx => by
    cases e : H x with
    | none => rfl
    | some o => exact absurd hx (a.dm x (by rw [e]; exact fun z => by cases z))
  refine ⟨fun x hx hs => ?_, fun x xs h => b.tup _ _ (a.tup _ _ h), fun x h => b.rr x (a.rr x h), fun x h => ?_, fun x h => ?_, fun x h => b.dm x (a.dm x h)⟩
  · have h1 := a.out x hx hs
    rw [b.out x (by rw [h1]; exact hx) (fun z => (a.sn x z).elim hs hx), h1]
  · rcases b.rn x h with h | h | h
    · exact a.rn x h
    · exact .inr (a.sn x h)
    · exact .inr (.inr (nn x h))
  · rcases b.sn x h with h | h
    · exact a.sn x h
    · exact .inr (nn x h)
end
/-! ### readings -/
abbrev Fb := Slots → Rb D
def PostB (C : Ct) (W : Wi) (R : Addr → Prop) (σ : L2.St) (H : Hp) (Q : VK) : Rb D → Prop
  | .ok d => ∀ v H' T, Same H H' → Rp C R H' d v T → Q v H'
  | .err c => ∀ H' cl, Same H H' → C.mg c = some (.ref cl) → W.w (.ref cl) none σ H'
  | .stuck => False
def PostF (C : Ct) (W : Wi) (R : Addr → Prop) (σ : L2.St) (H : Hp) (Q : VK) : Rb D → Prop
  | .ok d => ∀ v H' T, Same H H' → Rp C R H' d v T → T.Nodup → (∀ a ∈ T, H a = none) → Q v H'
  | .err c => ∀ H' cl, Same H H' → C.mg c = some (.ref cl) → W.w (.ref cl) none σ H'
  | .stuck => False
def PostL (C : Ct) (W : Wi) (R : Addr → Prop) (σ : L2.St) (H : Hp) (Q : List V → Hp → Prop) : Rb (List D) → Prop
  | .ok ds => ∀ vs H' T, Same H H' → RpL C R H' ds vs T → Q vs H'
  | .err c => ∀ H' cl, Same H H' → C.mg c = some (.ref cl) → W.w (.ref cl) none σ H'
  | .stuck => False
def PostLF (C : Ct) (W : Wi) (R : Addr → Prop) (σ : L2.St) (H : Hp) (Q : List V → Hp → Prop) : Rb (List D) → Prop
  | .ok ds => ∀ vs H' T, Same H H' → RpL C R H' ds vs T → T.Nodup → (∀ a ∈ T, H a = none) → Q vs H'
  | .err c => ∀ H' cl, Same H H' → C.mg c = some (.ref cl) → W.w (.ref cl) none σ H'
  | .stuck => False
def PostT (C : Ct) (W : Wi) (σ : L2.St) (H : Hp) (Q : Bool → Hp → Prop) : Rb Bool → Prop
  | .ok b => ∀ H', Same H H' → Q b H'
  | .err c => ∀ H' cl, Same H H' → C.mg c = some (.ref cl) → W.w (.ref cl) none σ H'
  | .stuck => False
def PostO (C : Ct) (W : Wi) (R : Addr → Prop) (S : List Addr) (σ : L2.St) (H : Hp) (Q : VK) : Ro → Prop
  | .ok d s' => ∀ v H' R' S' T, Rel C W R' H' s' σ S' → Rp C R' H' d v T → T.Nodup → (∀ a ∈ T, a ∉ S' ∧ ¬ R' a) → Fr R S H R' (S' ++ T) H' → Q v H'
  | .err c s' => ∀ H' R' S' cl, Rel C W R' H' s' σ S' → Fr R S H R' S' H' → C.mg c = some (.ref cl) → W.w (.ref cl) none σ H'
  | .stuck => False
def PostS (C : Ct) (W : Wi) (R : Addr → Prop) (S : List Addr) (H : Hp) (Dn : Ends) : Out → Prop
  | .nx s' => ∀ σ' H' R' S', Rel C W R' H' s' σ' S' → Fr R S H R' S' H' → Dn.nx σ' H'
  | .ret d s' => ∀ v σ' H' R' S' T, Rel C W R' H' s' σ' S' → Rp C R' H' d v T → T.Nodup → (∀ a ∈ T, a ∉ S' ∧ ¬ R' a) → Fr R S H R' (S' ++ T) H' → Dn.rt v H'
  | .brk s' => ∀ σ' H' R' S', Rel C W R' H' s' σ' S' → Fr R S H R' S' H' → Dn.bk σ' H'
  | .ct s' => ∀ σ' H' R' S', Rel C W R' H' s' σ' S' → Fr R S H R' S' H' → Dn.ct σ' H'
  | .err c s' => ∀ σ' H' R' S' cl, Rel C W R' H' s' σ' S' → Fr R S H R' S' H' → C.mg c = some (.ref cl) → W.w (.ref cl) none σ' H'
  | .stuck => False
def tB (C : Ct) (W : Wi) (f : Fb) : TE := fun σ H Q => ∃ s R S, Rel C W R H s σ S ∧ PostB C W R σ H Q (f s)
def tF (C : Ct) (W : Wi) (f : Fb) : TE := fun σ H Q => ∃ s R S, Rel C W R H s σ S ∧ PostF C W R σ H Q (f s)
def tBs (C : Ct) (W : Wi) (f : Slots → Rb (List D)) : TA := fun σ H Q => ∃ s R S, Rel C W R H s σ S ∧ PostL C W R σ H Q (f s)
def tFs (C : Ct) (W : Wi) (f : Slots → Rb (List D)) : TA := fun σ H Q => ∃ s R S, Rel C W R H s σ S ∧ PostLF C W R σ H Q (f s)
def tT (C : Ct) (W : Wi) (f : Slots → Rb Bool) : TT := fun σ H Q => ∃ s R S, Rel C W R H s σ S ∧ PostT C W σ H Q (f s)
def tO (C : Ct) (W : Wi) (f : Slots → Ro) : TE := fun σ H Q => ∃ s R S, Rel C W R H s σ S ∧ PostO C W R S σ H Q (f s)
def tSt (C : Ct) (W : Wi) (g : Slots → Out) : TS := fun Dn σ H => ∃ s R S, Rel C W R H s σ S ∧ PostS C W R S H Dn (g s)
abbrev ct (X : Cx) : Ct := ⟨X.K, X.mg⟩
abbrev PB (X : Cx) (W : Wi) (e : Expr) (f : Fb) : Prop := PE X e (tB (ct X) W f)
abbrev PF (X : Cx) (W : Wi) (e : Expr) (f : Fb) : Prop := PE X e (tF (ct X) W f)
abbrev PBs (X : Cx) (W : Wi) (es : List Expr) (f : Slots → Rb (List D)) : Prop := PA X es (tBs (ct X) W f)
abbrev PFs (X : Cx) (W : Wi) (es : List Expr) (f : Slots → Rb (List D)) : Prop := PA X es (tFs (ct X) W f)
abbrev PTb (X : Cx) (W : Wi) (e : Expr) (f : Slots → Rb Bool) : Prop := PT X e (tT (ct X) W f)
abbrev PO (X : Cx) (W : Wi) (e : Expr) (f : Slots → Ro) : Prop := PE X e (tO (ct X) W f)
abbrev PSd (X : Cx) (W : Wi) (st : Stmt) (g : Slots → Out) : Prop := PS X st (tSt (ct X) W g)
abbrev PSsd (X : Cx) (W : Wi) (st : List Stmt) (g : Slots → Out) : Prop := PSs X st (tSt (ct X) W g)
section
variable {X : Cx}
theorem pe_imp {e : Expr} {t t' : TE} (h : PE X e t) (i : ∀ σ H Q, t' σ H Q → t σ H Q) : PE X e t' := ⟨fun pins s σ H Q I q => h.run pins s σ H Q I (i σ H Q q)⟩
theorem pt_imp {e : Expr} {t t' : TT} (h : PT X e t) (i : ∀ σ H Q, t' σ H Q → t σ H Q) : PT X e t' := ⟨fun pins s σ H Q I q => h.run pins s σ H Q I (i σ H Q q)⟩
theorem pw_imp {e : Expr} {t t' : TT} (h : PW X e t) (i : ∀ σ H Q, t' σ H Q → t σ H Q) : PW X e t' := ⟨fun w pins s σ H Q I q => h.run w pins s σ H Q I (i σ H Q q)⟩
theorem pa_imp {es : List Expr} {t t' : TA} (h : PA X es t) (i : ∀ σ H Q, t' σ H Q → t σ H Q) : PA X es t' := ⟨fun pos pins s σ H Q I q => h.run pos pins s σ H Q I (i σ H Q q)⟩
theorem ps_imp {st : Stmt} {t t' : TS} (h : PS X st t) (i : ∀ D σ H, t' D σ H → t D σ H) : PS X st t' := ⟨fun pins s σ H D I q => h.run pins s σ H D I (i D σ H q)⟩
theorem pss_imp {st : List Stmt} {t t' : TS} (h : PSs X st t) (i : ∀ D σ H, t' D σ H → t D σ H) : PSs X st t' := ⟨fun pins s σ H D I q => h.run pins s σ H D I (i D σ H q)⟩
theorem opr_imp {f : Value → Value → Sem Value} {r r' : R2} (h : OpR X f r) (i : ∀ x y H Q, r' x y H Q → r x y H Q) : OpR X f r' := fun pins s σ H x y v u Q I rx ry q => h pins s σ H x y v u Q I rx ry (i x y H Q q)
end
section
variable {C : Ct} {W : Wi} {σ : L2.St} {H : Hp}
/-- fresh is readable -/
theorem tB_of_tF {f : Fb} {Q : VK} (h : tB C W f σ H Q) : tF C W f σ H Q := by
  obtain ⟨s, R, S, rel, p⟩ := h
  refine ⟨s, R, S, rel, ?_⟩
  cases e : f s with
  | ok d => rw [e] at p; exact fun v H' T k r _ _ => p v H' T k r
  | err c => rw [e] at p; exact p
  | stuck => rw [e] at p; exact p
/-- one value, then what follows -/
theorem tB_seq {f : Fb} {s : Slots} {R : Addr → Prop} {S : List Addr} {α : Type} {k : D → Rb α} {P : Rb α → Prop} {Q : VK} (rel : Rel C W R H s σ S) (p : P ((f s).bind k))
    (herr : ∀ c, P (.err c) → ∀ H' cl, Same H H' → C.mg c = some (.ref cl) → W.w (.ref cl) none σ H') (hst : P .stuck → False)
    (hok : ∀ d v H' T, f s = .ok d → P (k d) → Same H H' → Rp C R H' d v T → Q v H') : tB C W f σ H Q := by
  refine ⟨s, R, S, rel, ?_⟩
  cases e : f s with
  | ok d => rw [e] at p; exact fun v H' T sm r => hok d v H' T e p sm r
  | err c => rw [e] at p; exact herr c p
  | stuck => rw [e] at p; exact hst p
theorem PostF.err {R : Addr → Prop} {Q : VK} {c : Str} (h : PostF C W R σ H Q (.err c)) : ∀ H' cl, Same H H' → C.mg c = some (.ref cl) → W.w (.ref cl) none σ H' := h
theorem PostB.err {R : Addr → Prop} {Q : VK} {c : Str} (h : PostB C W R σ H Q (.err c)) : ∀ H' cl, Same H H' → C.mg c = some (.ref cl) → W.w (.ref cl) none σ H' := h
/-- a post-condition taken to a later heap -/
theorem PostF.later {R : Addr → Prop} {Q : VK} {H1 : Hp} {r : Rb D} (sm : Same H H1) (h : PostF C W R σ H Q r) : PostF C W R σ H1 Q r := by
  cases r with
  | ok d => exact fun v H' T k r n fr => h v H' T (sm.trans k) r n fun a ha => sm.free (fr a ha)
  | err c => exact fun H' cl k e => h H' cl (sm.trans k) e
  | stuck => exact h
theorem PostB.later {R : Addr → Prop} {Q : VK} {H1 : Hp} {r : Rb D} (sm : Same H H1) (h : PostB C W R σ H Q r) : PostB C W R σ H1 Q r := by
  cases r with
  | ok d => exact fun v H' T k r => h v H' T (sm.trans k) r
  | err c => exact fun H' cl k e => h H' cl (sm.trans k) e
  | stuck => exact h
theorem PostL.later {R : Addr → Prop} {Q : List V → Hp → Prop} {H1 : Hp} {r : Rb (List D)} (sm : Same H H1) (h : PostL C W R σ H Q r) : PostL C W R σ H1 Q r := by
  cases r with
  | ok d => exact fun v H' T k r => h v H' T (sm.trans k) r
  | err c => exact fun H' cl k e => h H' cl (sm.trans k) e
  | stuck => exact h
theorem PostLF.later {R : Addr → Prop} {Q : List V → Hp → Prop} {H1 : Hp} {r : Rb (List D)} (sm : Same H H1) (h : PostLF C W R σ H Q r) : PostLF C W R σ H1 Q r := by
  cases r with
  | ok d => exact fun v H' T k r n fr => h v H' T (sm.trans k) r n fun a ha => sm.free (fr a ha)
  | err c => exact fun H' cl k e => h H' cl (sm.trans k) e
  | stuck => exact h
theorem PostT.later {Q : Bool → Hp → Prop} {H1 : Hp} {r : Rb Bool} (sm : Same H H1) (h : PostT C W σ H Q r) : PostT C W σ H1 Q r := by
  cases r with
  | ok d => exact fun H' k => h H' (sm.trans k)
  | err c => exact fun H' cl k e => h H' cl (sm.trans k) e
  | stuck => exact h
end
/-! ### names and constants -/
section
variable {X : Cx} {W : Wi} {pos : Pos}
def bVar (i : Nat) : Fb := fun s => match s[i]? with
  | some (some d) => .ok d
  | _ => .stuck
theorem pb_var (i : Nat) {x : Str} {pos : Pos} (hN : X.N[i]? = some x := by rfl) (hv : Vis X.env.scope x := by first | exact Or.inl rfl | exact Or.inr (Or.inl rfl) | exact Or.inr (Or.inr rfl)) (hd : (x == ("__debug__" : Str)) = false := by decide)
    (hcd : (x == ("__classdict__" : Str)) = false := by decide) : PB X W (.Name x pos) (bVar i) := pe_imp (pe_var hN hv hd hcd) fun σ H Q h => by
  obtain ⟨s, R, S, rel, p⟩ := h
  unfold bVar at p
  cases e : s[i]? with
  | none => rw [e] at p; exact p.elim
  | some o =>
    cases o with
    | none => rw [e] at p; exact p.elim
    | some d =>
      rw [e] at p
      obtain ⟨v, S1, e1, r, _⟩ := rel.sl.get e
      exact ⟨v, e1, p v H S1 (Same.refl H) r⟩
def bC (d : D) : Fb := fun _ => .ok d
def litV : D → V → Prop
  | .non, v => v = .non
  | .bl b, v => v = .bl b
  | .int i, v => v = .int i
  | .str x, v => v = .str x
  | _, _ => False
theorem litV.rp {d : D} {v : V} {C : Ct} {R : Addr → Prop} {H : Hp} (h : litV d v) : Rp C R H d v [] := by
  cases d <;> first | exact ⟨h, rfl⟩ | exact h.elim
theorem tC_of {d : D} {v : V} {σ : L2.St} {H : Hp} {Q : VK} (h : tF (ct X) W (bC d) σ H Q) (hd : litV d v := by exact rfl) : tC v σ H Q := by
  obtain ⟨s, R, S, rel, p⟩ := h
  exact p v H [] (Same.refl H) hd.rp List.nodup_nil (by simp)
theorem pf_int {i : Int} {j pos} : PF X W (.Constant (.int i) j pos) (bC (.int i)) := pe_imp pe_int fun σ H Q h => tC_of h
theorem pf_bl {b : Bool} {j pos} : PF X W (.Constant (.bool b) j pos) (bC (.bl b)) := pe_imp pe_bl fun σ H Q h => tC_of h
theorem pf_non {j pos} : PF X W (.Constant .none j pos) (bC .non) := pe_imp pe_non fun σ H Q h => tC_of h
theorem pf_str {x : Str} {j pos} : PF X W (.Constant (.str x) j pos) (bC (.str x)) := pe_imp pe_str fun σ H Q h => tC_of h
/-- a module's constant, an int or a text -/
theorem pf_globI {x : Str} {i : Int} {u : Value} (hg : Gl X x) (hm : X.mg x = some u) (r : RelV (.int i) u) (hd : (x == ("__debug__" : Str)) = false := by decide) : PF X W (.Name x pos) (bC (.int i)) := pe_imp (pe_glob hg hm r hd) fun σ H Q h => tC_of h
theorem pf_globS {x : Str} {i : Str} {u : Value} (hg : Gl X x) (hm : X.mg x = some u) (r : RelV (.str i) u) (hd : (x == ("__debug__" : Str)) = false := by decide) : PF X W (.Name x pos) (bC (.str i)) := pe_imp (pe_glob hg hm r hd) fun σ H Q h => tC_of h
theorem pf_b {e : Expr} {f : Fb} (h : PF X W e f) : PB X W e f := pe_imp h fun _ _ _ q => tB_of_tF q
/-- what may be shared is as good as new -/
def fShr (f : Fb) : Fb := fun s => (f s).bind fun d => if shr d = true then .ok d else .stuck
theorem pb_f {e : Expr} {f : Fb} (h : PB X W e f) : PF X W e (fShr f) := pe_imp h fun σ H Q q => by
  obtain ⟨s, R, S, rel, p⟩ := q
  refine tB_seq rel p (fun c h => h) (fun h => h) fun d v H' T e q k r => ?_
  by_cases hs : shr d = true
  · rw [if_pos hs] at q
    have z := r.shr hs
    subst z
    exact q v H' [] k r List.nodup_nil (by simp)
  · rw [if_neg hs] at q; exact q.elim
/-! ### operators -/
/-- a two-place operator on trees -/
def OpV (X : Cx) (f : Value → Value → Sem Value) (g : D → D → Option D) : Prop := ∃ r, OpR X f r ∧
  ∀ d1 d2 d, g d1 d2 = some d → ∀ (R : Addr → Prop) (H : Hp) (v1 v2 : V) (S1 S2 : List Addr) (Q : VK), (∀ a, R a → H a ≠ none) → Rp (ct X) R H d1 v1 S1 → Rp (ct X) R H d2 v2 S2 →
    (∀ v H' T, Same H H' → Rp (ct X) R H' d v T → T.Nodup → (∀ a ∈ T, H a = none) → Q v H') → r v1 v2 H Q
def bBin (g : D → D → Option D) (f1 f2 : Fb) : Fb := fun s => (f1 s).bind fun d1 => (f2 s).bind fun d2 => Rb.of (g d1 d2)
theorem tOp_of {f : Value → Value → Sem Value} {g : D → D → Option D} (ho : OpV X f g) : ∃ r, OpR X f r ∧ ∀ {f1 f2 : Fb} {σ : L2.St} {H : Hp} {Q : VK}, tF (ct X) W (bBin g f1 f2) σ H Q → tOp r (tB (ct X) W f1) (tB (ct X) W f2) σ H Q := by
  obtain ⟨r, hr, hg⟩ := ho
  refine ⟨r, hr, fun {f1 f2 σ H Q} h => ?_⟩
  obtain ⟨s, R, S, rel, p⟩ := h
  refine tB_seq rel p (fun c h => h) (fun h => h) fun d1 v1 H1 T1 e1 p1 k1 r1 => ?_
  refine tB_seq (rel.same k1) (PostF.later k1 p1) (fun c h => h) (fun h => h) fun d2 v2 H2 T2 e2 p2 k2 r2 => ?_
  cases e : g d1 d2 with
  | none => rw [e] at p2; exact p2.elim
  | some d =>
    rw [e] at p2
    have dm := (rel.same k1).dom
    exact hg d1 d2 d e R H2 v1 v2 T1 T2 Q (rel.same (k1.trans k2)).dom (r1.same dm k2) r2 (PostF.later (r := .ok d) k2 p2)
theorem pf_op {op : Operator} {g : D → D → Option D} {a b : Expr} {f1 f2 : Fb} (ho : OpV X (binaryOp op) g) (ha : PB X W a f1) (hb : PB X W b f2) : PF X W (.BinOp a op b pos) (bBin g f1 f2) := by
  obtain ⟨r, hr, hi⟩ := tOp_of (W := W) ho
  exact pe_imp (pe_op hr ha hb) fun σ H Q h => hi h
theorem pf_cmp {op : CmpOp} {g : D → D → Option D} {a b : Expr} {f1 f2 : Fb} (ho : OpV X (compareOp op) g) (ha : PB X W a f1) (hb : PB X W b f2) (hm : behindInMarks op b = false) : PF X W (.Compare a [op] [b] pos) (bBin g f1 f2) := by
  obtain ⟨r, hr, hi⟩ := tOp_of (W := W) ho
  exact pe_imp (pe_cmpR hr ha hb hm) fun σ H Q h => hi h
/-- a value's truth as a test's -/
def asB : D → Rb Bool
  | .bl b => .ok b
  | _ => .stuck
def tsB (f : Fb) : Slots → Rb Bool := fun s => (f s).bind asB
theorem tF_test {f : Fb} {σ : L2.St} {H : Hp} {Q : Bool → Hp → Prop} (h : tT (ct X) W (tsB f) σ H Q) : tF (ct X) W f σ H (fun x H' => ∃ k, x = .bl k ∧ Q k H') := by
  obtain ⟨s, R, S, rel, p⟩ := h
  refine ⟨s, R, S, rel, ?_⟩
  unfold tsB at p
  cases e : f s with
  | ok d =>
    rw [e] at p
    intro v H' T k r _ _
    cases d with
    | bl b => exact ⟨b, r.1, p H' k⟩
    | non => exact p.elim
    | int i => exact p.elim
    | str i => exact p.elim
    | nd _ _ _ => exact p.elim
  | err c => rw [e] at p; exact p
  | stuck => rw [e] at p; exact p
theorem pt_cmpV {op : CmpOp} {g : D → D → Option D} {a b : Expr} {f1 f2 : Fb} (ho : OpV X (compareOp op) g) (ha : PB X W a f1) (hb : PB X W b f2) (hm : behindInMarks op b = false) : PTb X W (.Compare a [op] [b] pos) (tsB (bBin g f1 f2)) := by
  obtain ⟨r, hr, hi⟩ := tOp_of (W := W) ho
  exact pt_imp (pt_cmpR hr ha hb hm) fun σ H Q h => hi (tF_test h)
end
end VL
/-! # VL3: operators on trees -/
namespace VL
open PySem PySem.Spec PyProof.Rows L2
/-- ints in -/
def iOp (c : Int → Int → Bool) (g : Int → Int → D) : D → D → Option D
  | .int i, .int j => if c i j = true then some (g i j) else none
  | _, _ => none
section
variable {X : Cx}
theorem OpV.mk {f : Value → Value → Sem Value} {g : D → D → Option D} {r : R2} (h : OpR X f r)
  (i : ∀ d1 d2 d, g d1 d2 = some d → ∀ (R : Addr → Prop) (H : Hp) (v1 v2 : V) (S1 S2 : List Addr) (Q : VK), (∀ a, R a → H a ≠ none) → Rp (ct X) R H d1 v1 S1 → Rp (ct X) R H d2 v2 S2 →
    (∀ v H' T, Same H H' → Rp (ct X) R H' d v T → T.Nodup → (∀ a ∈ T, H a = none) → Q v H') → r v1 v2 H Q) : OpV X f g := ⟨r, h, i⟩
/-- the one or the other -/
def g2 (g g' : D → D → Option D) : D → D → Option D := fun a b => match g a b with
  | some d => some d
  | none => g' a b
theorem OpV.or {f : Value → Value → Sem Value} {g g' : D → D → Option D} (h : OpV X f g) (h' : OpV X f g') : OpV X f (g2 g g') := by
  obtain ⟨r, a, b⟩ := h
  obtain ⟨r', a', b'⟩ := h'
  refine ⟨_, OpR.or a a', fun d1 d2 d e R H v1 v2 S1 S2 Q dm r1 r2 q => ?_⟩
  unfold g2 at e
  cases z : g d1 d2 with
  | some y =>
    rw [z] at e
    cases e
    exact .inl (b d1 d2 d z R H v1 v2 S1 S2 Q dm r1 r2 q)
  | none =>
    rw [z] at e
    exact .inr (b' d1 d2 d e R H v1 v2 S1 S2 Q dm r1 r2 q)
theorem OpV.eq {f : Value → Value → Sem Value} {g g' : D → D → Option D} (h : OpV X f g) (e : ∀ a b d, g' a b = some d → g a b = some d) : OpV X f g' := by
  obtain ⟨r, a, b⟩ := h
  exact ⟨r, a, fun d1 d2 d z => b d1 d2 d (e _ _ _ z)⟩
theorem opv_int {f : Value → Value → Sem Value} {c : Int → Int → Bool} {g : Int → Int → D} {r : R2} (h : OpR X f r) (i : ∀ i j H Q, c i j = true → (∀ v, litV (g i j) v → Q v H) → r (.int i) (.int j) H Q) : OpV X f (iOp c g) := by
  refine .mk h fun d1 d2 d e R H v1 v2 S1 S2 Q dm r1 r2 q => ?_
  unfold iOp at e
  split at e
  · rename_i a b
    split at e
    · rename_i hc
      cases e
      rw [r1.1, r2.1]
      exact i a b H Q hc fun v l => q v H [] (Same.refl H) l.rp List.nodup_nil (by simp)
    · cases e
  · cases e
@[reducible] def cT : Int → Int → Bool := fun _ _ => true
def gAdd := iOp cT fun i j => .int (i + j)
def gSub := iOp cT fun i j => .int (i - j)
def gMul := iOp (fun i j => decide (i.natAbs.log2 + j.natAbs.log2 < 1000000)) fun i j => .int (i * j)
def gMod := iOp (fun _ j => decide (0 < j)) fun i j => .int (i % j)
def gDiv := iOp (fun _ j => decide (0 < j ∧ j.natAbs.log2 < 9000)) fun i j => .int (i / j)
def gPow := iOp (fun i j => decide (0 ≤ j ∧ j ≤ 1000000 ∧ i.natAbs < 2 ^ 64)) fun i j => .int (i ^ j.toNat)
def gShl := iOp (fun i j => decide (0 ≤ j ∧ j ≤ 1000000 ∧ i.natAbs < 2 ^ 64)) fun i j => .int (i * 2 ^ j.toNat)
def gShr := iOp (fun _ j => decide (0 ≤ j)) fun i j => .int (i / 2 ^ j.toNat)
def gAnd := iOp cT fun i j => .int (Builtin.bitAnd i j)
def gOr := iOp cT fun i j => .int (Builtin.bitOr i j)
def gXor := iOp cT fun i j => .int (Builtin.bitXor i j)
def gLt := iOp cT fun i j => .bl (decide (i < j))
def gLe := iOp cT fun i j => .bl (decide (i ≤ j))
def gGt := iOp cT fun i j => .bl (decide (j < i))
def gGe := iOp cT fun i j => .bl (decide (j ≤ i))
theorem ov_addI : OpV X (binaryOp .Add) gAdd := opv_int op_add fun i j H Q _ q => ⟨i, j, rfl, rfl, q _ rfl⟩
theorem ov_sub : OpV X (binaryOp .Sub) gSub := opv_int op_sub fun i j H Q _ q => ⟨i, j, rfl, rfl, q _ rfl⟩
theorem ov_mulI : OpV X (binaryOp .Mult) gMul := opv_int op_mulW fun i j H Q c q => ⟨i, j, rfl, rfl, (by have z := of_decide_eq_true c; exact z), q _ rfl⟩
theorem ov_mod : OpV X (binaryOp .Mod) gMod := opv_int op_mod fun i j H Q c q => ⟨i, j, rfl, rfl, (by have z := of_decide_eq_true c; exact z), q _ rfl⟩
theorem ov_div : OpV X (binaryOp .FloorDiv) gDiv := opv_int op_fdivW fun i j H Q c q => ⟨i, j, rfl, rfl, (by have z := of_decide_eq_true c; exact z), q _ rfl⟩
theorem ov_pow : OpV X (binaryOp .Pow) gPow := opv_int op_pow fun i j H Q c q => ⟨i, j, rfl, rfl, (by have z := of_decide_eq_true c; exact z), q _ rfl⟩
theorem ov_shl : OpV X (binaryOp .LShift) gShl := opv_int op_shl fun i j H Q c q => ⟨i, j, rfl, rfl, (by have z := of_decide_eq_true c; exact z), q _ rfl⟩
theorem ov_shr : OpV X (binaryOp .RShift) gShr := opv_int op_shr fun i j H Q c q => ⟨i, j, rfl, rfl, (by have z := of_decide_eq_true c; exact z), q _ rfl⟩
theorem ov_and : OpV X (binaryOp .BitAnd) gAnd := opv_int op_and fun i j H Q c q => ⟨i, j, rfl, rfl, q _ rfl⟩
theorem ov_or : OpV X (binaryOp .BitOr) gOr := opv_int op_or fun i j H Q c q => ⟨i, j, rfl, rfl, q _ rfl⟩
theorem ov_xor : OpV X (binaryOp .BitXor) gXor := opv_int op_xor fun i j H Q c q => ⟨i, j, rfl, rfl, q _ rfl⟩
theorem ov_lt : OpV X (compareOp .Lt) gLt := opv_int op_lt fun i j H Q c q => ⟨i, j, rfl, rfl, q _ rfl⟩
theorem ov_le : OpV X (compareOp .LtE) gLe := opv_int op_le fun i j H Q c q => ⟨i, j, rfl, rfl, q _ rfl⟩
theorem ov_gt : OpV X (compareOp .Gt) gGt := opv_int op_gt fun i j H Q c q => ⟨i, j, rfl, rfl, q _ rfl⟩
theorem ov_ge : OpV X (compareOp .GtE) gGe := opv_int op_ge fun i j H Q c q => ⟨i, j, rfl, rfl, q _ rfl⟩
/-! ### texts -/
def gAddS : D → D → Option D
  | .str a, .str b => if a.length + b.length ≤ sizeLine then some (.str (a ++ b)) else none
  | _, _ => none
theorem ov_addS : OpV X (binaryOp .Add) gAddS := .mk op_add_str fun d1 d2 d e R H v1 v2 S1 S2 Q dm r1 r2 q => by
  unfold gAddS at e
  split at e
  · rename_i a b
    split at e
    · rename_i hc
      cases e
      rw [r1.1, r2.1]
      exact ⟨a, b, rfl, rfl, hc, q _ H [] (Same.refl H) ⟨rfl, rfl⟩ List.nodup_nil (by simp)⟩
    · cases e
  · cases e
/-! ### nodes read -/
theorem rp_lst {C : Ct} {R : Addr → Prop} {H : Hp} {m : Bool} {ds : List D} {v : V} {S : List Addr} (h : Rp C R H (.nd .lst m ds) v S) : ∃ a vs S', v = .ref a ∧ SqL C.K H a vs ∧ RpL C R H ds vs S' := by
  unfold Rp at h
  obtain ⟨a, vs, S', e, c, r⟩ := h
  refine ⟨a, vs, S', e, ?_, r⟩
  cases m with
  | true => exact .inl (.inl c.1)
  | false => exact c.1.seq
theorem rp_lstO {C : Ct} {R : Addr → Prop} {H : Hp} {ds : List D} {v : V} {S : List Addr} (h : Rp C R H (.nd .lst true ds) v S) : ∃ a vs S', v = .ref a ∧ H a = some (.lst vs) ∧ RpL C R H ds vs S' ∧ S = a :: S' := by
  unfold Rp at h
  obtain ⟨a, vs, S', e, c, r⟩ := h
  exact ⟨a, vs, S', e, c.1, r, c.2⟩
theorem rp_tup {C : Ct} {R : Addr → Prop} {H : Hp} {m : Bool} {ds : List D} {v : V} {S : List Addr} (h : Rp C R H (.nd .tup m ds) v S) : ∃ a vs, v = .ref a ∧ SqT C.K H a vs ∧ RpL C R H ds vs S := by
  unfold Rp at h
  obtain ⟨a, vs, S', e, c, r⟩ := h
  exact ⟨a, vs, e, c.1, by rw [c.2]; exact r⟩
theorem rp_dct {C : Ct} {R : Addr → Prop} {H : Hp} {ks : List Key} {m : Bool} {ds : List D} {v : V} {S : List Addr} (h : Rp C R H (.nd (.dct ks) m ds) v S) : ∃ a vs S', v = .ref a ∧ Rd H a (.dK (ks.zip vs)) ∧ ks.length = vs.length ∧ RpL C R H ds vs S' := by
  unfold Rp at h
  obtain ⟨a, vs, S', e, c, r⟩ := h
  refine ⟨a, vs, S', e, ?_, ?_, r⟩
  · cases m with
    | true => exact .inl c.2.1
    | false => exact c.2.1
  · cases m with
    | true => exact c.1.1
    | false => exact c.1.1
theorem rp_dctN {C : Ct} {R : Addr → Prop} {H : Hp} {ks : List Key} {m : Bool} {ds : List D} {v : V} {S : List Addr} (h : Rp C R H (.nd (.dct ks) m ds) v S) : ks.Nodup := by
  unfold Rp at h
  obtain ⟨a, vs, S', e, c, r⟩ := h
  cases m with
  | true => exact c.1.2
  | false => exact c.1.2
theorem same_upd' {H : Hp} {p : Addr} {o : HO} (h : H p = none) : Same H (upd H p o) := fun b x e => by
  rw [upd_ne (ne_of_none e h)]
  exact e
/-- a new list, a new tuple: the items' own cells are fresh -/
theorem rp_newL {C : Ct} {R : Addr → Prop} {H H1 : Hp} {ds : List D} {vs : List V} {T : List Addr} {p : Addr} (dm : ∀ a, R a → H1 a ≠ none) (k : Same H H1) (hp : H1 p = none) (h : RpL C R H1 ds vs T) (nd : T.Nodup) (fr : ∀ a ∈ T, H a = none) :
    Same H (upd H1 p (.lst vs)) ∧ Rp C R (upd H1 p (.lst vs)) (.lst true ds) (.ref p) (p :: T) ∧ (p :: T).Nodup ∧ ∀ a ∈ p :: T, H a = none := by
  have hpT : p ∉ T := fun z => (h.owns p z).some hp
  refine ⟨k.trans (same_upd' hp), ?_, List.nodup_cons.mpr ⟨hpT, nd⟩, ?_⟩
  · unfold Rp
    exact ⟨p, vs, T, rfl, ⟨upd_same, rfl⟩, h.same dm (same_upd' hp)⟩
  · intro a ha
    rcases List.mem_cons.mp ha with rfl | ha
    · exact k.free hp
    · exact fr a ha
theorem rp_newT {C : Ct} {R : Addr → Prop} {H H1 : Hp} {ds : List D} {vs : List V} {T : List Addr} {p : Addr} (dm : ∀ a, R a → H1 a ≠ none) (k : Same H H1) (hp : H1 p = none) (h : RpL C R H1 ds vs T) :
    Same H (upd H1 p (.tup vs)) ∧ Rp C R (upd H1 p (.tup vs)) (.tup ds) (.ref p) T := by
  refine ⟨k.trans (same_upd' hp), ?_⟩
  unfold Rp
  exact ⟨p, vs, T, rfl, ⟨.inl (.inl upd_same), rfl⟩, h.same dm (same_upd' hp)⟩
/-! ### list + list -/
def gCat : D → D → Option D
  | .nd .lst _ xs, .nd .lst _ ys => if (shrL xs && shrL ys) = true ∧ xs.length + ys.length ≤ sizeLine then some (.lst true (xs ++ ys)) else none
  | _, _ => none
/-- a list that is tracked or locked, plus another one -/
def rCatL (K : PySem.W.Frag) : R2 := fun x y H Q => ∃ l b xs zs, x = .ref l ∧ y = .ref b ∧ SqL K H l xs ∧ SqL K H b zs ∧ xs.length + zs.length ≤ sizeLine ∧ ∀ p, H p = none → Q (.ref p) (upd H p (.lst (xs ++ zs)))
theorem op_catL : OpR X (binaryOp .Add) (rCatL X.K) := by
  intro pins s σ H x y v u Q I rx ry h
  obtain ⟨l, b, xs, zs, rfl, rfl, hH, hB, hz, q⟩ := h
  cases rx
  cases ry
  obtain ⟨its, rv, pl, hsz⟩ := I.list hH
  obtain ⟨its2, rv2, pl2, hsz2⟩ := I.list hB
  obtain ⟨⟨cls, dd, data, sl⟩, ho, hc, n, hd⟩ := pl.isList
  obtain ⟨⟨cls2, dd2, data2, sl2⟩, ho2, hc2, n2, hd2⟩ := pl2.isList
  simp only at hc hd hc2 hd2
  subst hc hd hc2 hd2
  have l1 := rv.length
  have l2 := rv2.length
  refine concat_meets ⟨_, ho, rfl⟩ ⟨_, ho2, rfl⟩ noFill_list_add seq_list_add PySem.F.slot_list_add PySem.F.entry_list_add (PySem.F.args_list_add_2 _ _) (list_addW l b its.toArray its2.toArray n n2 dd dd2 sl sl2 (by rw [List.size_toArray, List.size_toArray]; omega)) ⟨ho, ho2, ?_⟩
  have ea : its.toArray ++ its2.toArray = (its ++ its2).toArray := by simp
  rw [ea]
  exact ⟨.ref _, _, I.lnew (t' := s.toks) (rv.append rv2) (by rw [List.length_append]; omega), rfl, q _ I.fresh⟩
theorem shrL_append : ∀ {xs ys : List D}, shrL xs = true → shrL ys = true → shrL (xs ++ ys) = true
  | [], _, _, h => h
  | x :: xs, ys, h, g => by
    unfold shrL at h
    rw [Bool.and_eq_true] at h
    rw [List.cons_append]
    unfold shrL
    rw [h.1, shrL_append h.2 g]
    rfl
theorem RpL.nilS {C : Ct} {R : Addr → Prop} {H : Hp} {ds : List D} {vs : List V} {S : List Addr} (q : shrL ds = true) (h : RpL C R H ds vs S) : RpL C R H ds vs [] := by
  have e := h.shr q
  rw [e] at h
  exact h
theorem ov_cat : OpV X (binaryOp .Add) gCat := .mk op_catL fun d1 d2 d e R H v1 v2 S1 S2 Q dm r1 r2 q => by
  unfold gCat at e
  split at e
  · rename_i m1 xs m2 ys
    split at e
    · rename_i hc
      cases e
      obtain ⟨hs, hl⟩ := hc
      rw [Bool.and_eq_true] at hs
      obtain ⟨a, vs, S', rfl, sa, ra⟩ := rp_lst r1
      obtain ⟨b, ws, T', rfl, sb, rb⟩ := rp_lst r2
      have la := ra.length
      have lb := rb.length
      refine ⟨a, b, vs, ws, rfl, rfl, sa, sb, by omega, fun p hp => ?_⟩
      have z := rp_newL (H := H) dm (Same.refl H) hp ((ra.nilS hs.1).append (rb.nilS hs.2)) List.nodup_nil (by simp)
      exact q _ _ _ z.1 z.2.1 z.2.2.1 z.2.2.2
    · cases e
  · cases e
/-- tuple + tuple -/
def gCatT : D → D → Option D
  | .nd .tup _ xs, .nd .tup _ ys => if (shrL xs && shrL ys) = true ∧ xs ≠ [] ∧ xs.length + ys.length ≤ sizeLine then some (.tup (xs ++ ys)) else none
  | _, _ => none
theorem ne_nil_len {α : Type} {xs : List α} (h : 0 < xs.length) : xs ≠ [] := fun e => by subst e; simp at h
end
section
variable {X : Cx}
def gCatT' : D → D → Option D
  | .nd .tup _ xs, .nd .tup _ ys => if (shrL xs && shrL ys) = true ∧ 0 < xs.length ∧ xs.length + ys.length ≤ sizeLine then some (.tup (xs ++ ys)) else none
  | _, _ => none
theorem ov_catT : OpV X (binaryOp .Add) gCatT' := .mk op_catT fun d1 d2 d e R H v1 v2 S1 S2 Q dm r1 r2 q => by
  unfold gCatT' at e
  split at e
  · rename_i m1 xs m2 ys
    split at e
    · rename_i hc
      cases e
      obtain ⟨hs, h0, hl⟩ := hc
      rw [Bool.and_eq_true] at hs
      obtain ⟨a, vs, rfl, sa, ra⟩ := rp_tup r1
      obtain ⟨b, ws, rfl, sb, rb⟩ := rp_tup r2
      have la := ra.length
      have lb := rb.length
      refine ⟨a, b, vs, ws, rfl, rfl, sa, sb, ne_nil_len (by omega), by omega, fun e0 => ?_, fun _ p hp => ?_⟩
      · subst e0
        have e1 : ys = [] := List.eq_nil_of_length_eq_zero lb
        subst e1
        rw [List.append_nil] at q
        refine q _ H [] (Same.refl H) ?_ List.nodup_nil (by simp)
        unfold Rp
        exact ⟨a, vs, [], rfl, ⟨sa, rfl⟩, ra.nilS hs.1⟩
      · have z := rp_newT (H := H) dm (Same.refl H) hp ((ra.nilS hs.1).append (rb.nilS hs.2))
        exact q _ _ _ z.1 z.2 List.nodup_nil (by simp)
    · cases e
  · cases e
/-- text * int -/
def gMulS : D → D → Option D
  | .str x, .int n => if x.length ≤ 1000 ∧ -1000 ≤ n ∧ n ≤ 1000 then some (.str (Txt.mul x n)) else none
  | _, _ => none
theorem op_mulS : OpR X (binaryOp .Mult) (fun x y H Q => ∃ z n, x = .str z ∧ y = .int n ∧ (z.length ≤ 1000 ∧ -1000 ≤ n ∧ n ≤ 1000) ∧ Q (.str (Txt.mul z n)) H) := by
  intro pins s σ H x y v u Q I rx ry h
  obtain ⟨z, n, rfl, rfl, ⟨h1, h2, h3⟩, q⟩ := h
  obtain ⟨t, rfl⟩ := rx
  obtain ⟨t', rfl⟩ := ry
  refine SB.mul ⟨?_, fun h _ => ?_, fun h _ => ?_⟩ fun t2 k => ⟨.str (Txt.mul z n), H, I.tok k, ⟨t2, rfl⟩, q⟩
  · simp only [Bool.or_eq_false_iff, decide_eq_false_iff_not]
    constructor <;> omega
  · have hn : 1 ≤ n := by omega
    have e1 : (1000 : Int) ≤ (2 ^ 63 - 1) / n := by
      apply (Int.le_ediv_iff_mul_le (by omega)).mpr
      have : (1000 : Int) * n ≤ 1000 * 1000 := by omega
      omega
    omega
  · have h5 : n.toNat ≤ 1000 := by omega
    have h4 : z.length * n.toNat ≤ 1000 * 1000 := Nat.mul_le_mul h1 h5
    have h6 : (1000 * 1000 : Nat) ≤ sizeLine := by decide
    unfold Builtin.Str.tooLong
    exact decide_eq_false (by omega)
theorem ov_mulS : OpV X (binaryOp .Mult) gMulS := .mk op_mulS fun d1 d2 d e R H v1 v2 S1 S2 Q dm r1 r2 q => by
  unfold gMulS at e
  split at e
  · rename_i a b
    split at e
    · rename_i hc
      cases e
      rw [r1.1, r2.1]
      exact ⟨a, b, rfl, rfl, hc, q _ H [] (Same.refl H) ⟨rfl, rfl⟩ List.nodup_nil (by simp)⟩
    · cases e
  · cases e
/-- list * int -/
def gMulL : D → D → Option D
  | .nd .lst true xs, .int n => if shrL xs = true ∧ -1000 ≤ n ∧ n ≤ 1000 ∧ xs.length ≤ 1000 then some (.lst true (List.replicate n.toNat xs).flatten) else none
  | _, _ => none
theorem rpl_rep {C : Ct} {R : Addr → Prop} {H : Hp} {ds : List D} {vs : List V} (h : RpL C R H ds vs []) : ∀ n : Nat, RpL C R H (List.replicate n ds).flatten (List.replicate n vs).flatten []
  | 0 => RpL.nil
  | n + 1 => by
    rw [List.replicate_succ, List.replicate_succ, List.flatten_cons, List.flatten_cons]
    exact RpL.append h (rpl_rep h n)
theorem ov_mulL : OpV X (binaryOp .Mult) gMulL := .mk op_rep fun d1 d2 d e R H v1 v2 S1 S2 Q dm r1 r2 q => by
  unfold gMulL at e
  split at e
  · rename_i xs n
    split at e
    · rename_i hc
      cases e
      obtain ⟨hs, h1, h2, h3⟩ := hc
      obtain ⟨a, vs, S', rfl, sa, ra, _⟩ := rp_lstO r1
      have la := ra.length
      rw [r2.1]
      have h5 : n.toNat ≤ 1000 := by omega
      have h4 : vs.length * n.toNat ≤ 1000 * 1000 := Nat.mul_le_mul (by omega) h5
      have h6 : (1000 * 1000 : Nat) ≤ sizeLine := by decide
      refine ⟨a, n, vs, rfl, rfl, sa, by omega, by omega, by omega, fun p hp => ?_⟩
      have z := rp_newL (H := H) dm (Same.refl H) hp (rpl_rep (ra.nilS hs) n.toNat) List.nodup_nil (by simp)
      exact q _ _ _ z.1 z.2.1 z.2.2.1 z.2.2.2
    · cases e
  · cases e
def gAddU : D → D → Option D
  | .int i, .int j => some (.int (i + j))
  | .str a, .str b => gAddS (.str a) (.str b)
  | .nd .lst m xs, .nd .lst m' ys => gCat (.nd .lst m xs) (.nd .lst m' ys)
  | .nd .tup m xs, .nd .tup m' ys => gCatT' (.nd .tup m xs) (.nd .tup m' ys)
  | _, _ => none
theorem ov_add : OpV X (binaryOp .Add) gAddU := (ov_addI.or (ov_addS.or (ov_cat.or ov_catT))).eq fun a b d e => by
  unfold gAddU at e
  split at e
  · cases e; rfl
  · show g2 gAddS _ _ _ = _
    unfold g2; rw [e]
  · show g2 gCat gCatT' _ _ = _
    unfold g2; rw [e]
  · exact e
  · cases e
def gMulU : D → D → Option D
  | .int i, .int j => gMul (.int i) (.int j)
  | .str a, .int n => gMulS (.str a) (.int n)
  | .nd .lst m xs, .int n => gMulL (.nd .lst m xs) (.int n)
  | _, _ => none
theorem ov_mul : OpV X (binaryOp .Mult) gMulU := (ov_mulI.or (ov_mulS.or ov_mulL)).eq fun a b d e => by
  unfold gMulU at e
  split at e
  · unfold g2; rw [e]
  · show g2 gMulS gMulL _ _ = _
    unfold g2; rw [e]
  · exact e
  · cases e
/-! ### equality -/
mutual
def toPy : D → Option PyData
  | .non => some .none
  | .bl b => some (.bool b)
  | .int i => some (.int i)
  | .str x => some (.str x)
  | .nd .tup _ ds => (toPyL ds).map .tuple
  | .nd .lst _ ds => (toPyL ds).map .list
  | .nd _ _ _ => none
def toPyL : List D → Option (List PyData)
  | [] => some []
  | d :: ds => match toPy d, toPyL ds with
    | some p, some ps => some (p :: ps)
    | _, _ => none
end
mutual
theorem Rp.dp {C : Ct} {R : Addr → Prop} {H : Hp} : ∀ {d : D} {v : V} {S : List Addr} {p : PyData}, Rp C R H d v S → toPy d = some p → Dp C.K H v p
  | .non, _, _, _, h, e => by cases e; rw [h.1]; exact .non
  | .bl _, _, _, _, h, e => by cases e; rw [h.1]; exact .bl _
  | .int _, _, _, _, h, e => by cases e; rw [h.1]; exact .int _
  | .str _, _, _, _, h, e => by cases e; rw [h.1]; exact .str _
  | .nd .tup m ds, _, _, p, h, e => by
    unfold toPy at e
    obtain ⟨a, vs, rfl, sa, ra⟩ := rp_tup h
    cases z : toPyL ds with
    | none => rw [z] at e; cases e
    | some ps => rw [z] at e; cases e; exact .tup sa (RpL.dp ra z)
  | .nd .lst m ds, _, _, p, h, e => by
    unfold toPy at e
    obtain ⟨a, vs, S', rfl, sa, ra⟩ := rp_lst h
    cases z : toPyL ds with
    | none => rw [z] at e; cases e
    | some ps => rw [z] at e; cases e; exact .lst sa (RpL.dp ra z)
  | .nd (.dct _) _ _, _, _, _, _, e => by unfold toPy at e; cases e
  | .nd (.ins _ _) _ _, _, _, _, _, e => by unfold toPy at e; cases e
theorem RpL.dp {C : Ct} {R : Addr → Prop} {H : Hp} : ∀ {ds : List D} {vs : List V} {S : List Addr} {ps : List PyData}, RpL C R H ds vs S → toPyL ds = some ps → DpAll C.K H vs ps
  | [], _, _, _, h, e => by unfold toPyL at e; unfold RpL at h; cases e; rw [h.1]; exact .nil
  | d :: ds, _, _, _, h, e => by
    unfold toPyL at e
    unfold RpL at h
    obtain ⟨v, vs', S1, S2, e1, e2, h1, h2⟩ := h
    subst e1
    split at e
    · rename_i p ps z1 z2
      cases e
      exact .cons (Rp.dp h1 z1) (RpL.dp h2 z2)
    · cases e
end
def eqD (d1 d2 : D) : Option Bool := match toPy d1, toPy d2 with
  | some p, some q => if (SeqAt.shaped p && SeqAt.shaped q) = true then some (PyData.eqv p q) else none
  | _, _ => none
def gEq (d1 d2 : D) : Option D := (eqD d1 d2).map .bl
def gNe (d1 d2 : D) : Option D := (eqD d1 d2).map fun b => .bl (!b)
theorem eqD_parts {d1 d2 : D} {b : Bool} (h : eqD d1 d2 = some b) : ∃ p q, toPy d1 = some p ∧ toPy d2 = some q ∧ SeqAt.shaped p = true ∧ SeqAt.shaped q = true ∧ PyData.eqv p q = b := by
  unfold eqD at h
  split at h
  · rename_i p q z1 z2
    split at h
    · rename_i hs
      rw [Bool.and_eq_true] at hs
      exact ⟨p, q, z1, z2, hs.1, hs.2, Option.some.inj h⟩
    · cases h
  · cases h
theorem ov_eqD (hu : X.A.units + 64 < cLine) : OpV X (compareOp .Eq) gEq := .mk (op_eqD hu) fun d1 d2 d e R H v1 v2 S1 S2 Q dm r1 r2 q => by
  unfold gEq at e
  obtain ⟨b, e1, e2⟩ := Option.map_eq_some_iff.mp e
  obtain ⟨p, p', z1, z2, z3, z4, z5⟩ := eqD_parts e1
  subst e2
  exact ⟨p, p', r1.dp z1, r2.dp z2, z3, z4, q _ H [] (Same.refl H) ⟨by rw [z5], rfl⟩ List.nodup_nil (by simp)⟩
theorem ov_neD (hu : X.A.units + 64 < cLine) : OpV X (compareOp .NotEq) gNe := .mk (op_neD hu) fun d1 d2 d e R H v1 v2 S1 S2 Q dm r1 r2 q => by
  unfold gNe at e
  obtain ⟨b, e1, e2⟩ := Option.map_eq_some_iff.mp e
  obtain ⟨p, p', z1, z2, z3, z4, z5⟩ := eqD_parts e1
  subst e2
  exact ⟨p, p', r1.dp z1, r2.dp z2, z3, z4, q _ H [] (Same.refl H) ⟨by rw [z5], rfl⟩ List.nodup_nil (by simp)⟩
/-! ### is, is not: with None, of truths -/
def isN : D → Bool
  | .non => true
  | _ => false
def gIs : D → D → Option D
  | d, .non => some (.bl (isN d))
  | .bl a, .bl b => some (.bl (decide (a = b)))
  | _, _ => none
def gIsNot : D → D → Option D
  | d, .non => some (.bl (!isN d))
  | .bl a, .bl b => some (.bl (!decide (a = b)))
  | _, _ => none
theorem Rp.isN {C : Ct} {R : Addr → Prop} {H : Hp} {d : D} {v : V} {S : List Addr} (h : Rp C R H d v S) : decide (v = .non) = VL.isN d := by
  cases d with
  | non => rw [h.1]; rfl
  | bl b => rw [h.1]; rfl
  | int b => rw [h.1]; rfl
  | str b => rw [h.1]; rfl
  | nd k m ds =>
    unfold Rp at h
    obtain ⟨a, vs, S', e, c, r⟩ := h
    rw [e]; rfl
theorem ov_is : OpV X (compareOp .Is) gIs := .mk (OpR.or op_isN op_isBl) fun d1 d2 d e R H v1 v2 S1 S2 Q dm r1 r2 q => by
  unfold gIs at e
  split at e
  · cases e
    rw [r2.1]
    refine .inl ⟨rfl, q _ H [] (Same.refl H) ⟨by rw [r1.isN], rfl⟩ List.nodup_nil (by simp)⟩
  · cases e
    rw [r2.1, r1.1]
    exact .inr ⟨_, _, rfl, rfl, q _ H [] (Same.refl H) ⟨rfl, rfl⟩ List.nodup_nil (by simp)⟩
  · cases e
theorem ov_isNot : OpV X (compareOp .IsNot) gIsNot := .mk (OpR.or op_notN op_notBl) fun d1 d2 d e R H v1 v2 S1 S2 Q dm r1 r2 q => by
  unfold gIsNot at e
  split at e
  · cases e
    rw [r2.1]
    refine .inl ⟨rfl, q _ H [] (Same.refl H) ⟨by rw [r1.isN], rfl⟩ List.nodup_nil (by simp)⟩
  · cases e
    rw [r2.1, r1.1]
    exact .inr ⟨_, _, rfl, rfl, q _ H [] (Same.refl H) ⟨rfl, rfl⟩ List.nodup_nil (by simp)⟩
  · cases e
/-! ### subscripts -/
def rIxD : R2 := fun x y H Q => ∃ a v, x = .ref a ∧ DGet H a y (some v) ∧ Q v H
theorem ix_dict (hu : X.A.units + 1 < cLine) : IxR X rIxD := by
  intro value slice pins s σ H x y v u Q I rx ry h hs
  obtain ⟨a, w', rfl, g, q⟩ := h
  obtain rfl : v = Value.ref a := rx
  have hT := dict_typeIs I g
  unfold subscriptTail
  refine wpAny_bind ?_
  rw [getitemInPython_of_ne hT.not_modules]
  refine wpAny_bind (wpAny_specialOf hT PySem.F.slot_dict_getitem.lookup ?_)
  have fin : wpAny (model X.prog X.w) X.A (subscripted slice false (.ref a) u) (fun r s₃ => wpAny (model X.prog X.w) X.A (letTemporaryGo value (.ref a) r >>= fun _ => pure r) (EP X pins σ Q) X.xe s₃) X.xe s := by
    rw [hs]
    exact wpAny_operating (d_getItem hu I g ry fun w2 s3 I3 rw' => wpAny_bind (wpAny_letTemporaryGo (wpAny_pure ⟨w', H, I3, rw', q⟩)))
  first
    | exact wpAny_pure (wpAny_bind fin)
    | exact wpAny_bind fin
def lookK (k : Key) : List Key → List D → Option D
  | k' :: ks, d :: ds => if k' = k then some d else lookK k ks ds
  | _, _ => none
def keyD : D → Option Key
  | .int i => some (.inl i)
  | .str x => some (.inr x)
  | _ => none
def gIx : D → D → Option D
  | .nd .lst _ ds, .int i => atI ds i
  | .nd .tup _ ds, .int i => atI ds i
  | .str z, .int i => if z.length ≤ sizeLine then (atI z.cps.toList i).map fun c => .str ⟨#[c]⟩ else none
  | .nd (.dct ks) _ ds, k => (keyD k).bind fun k => lookK k ks ds
  | _, _ => none
theorem RpL.atI {C : Ct} {R : Addr → Prop} {H : Hp} {ds : List D} {vs : List V} {S : List Addr} {i : Int} {d : D} (h : RpL C R H ds vs S) (e : L2.atI ds i = some d) : ∃ v S1, L2.atI vs i = some v ∧ Rp C R H d v S1 := by
  unfold L2.atI at e ⊢
  rw [← h.length]
  cases z : ixN ds.length i with
  | none => rw [z] at e; cases e
  | some j => rw [z] at e; exact h.get e
theorem RpL.lookK {C : Ct} {R : Addr → Prop} {H : Hp} {k : Key} : ∀ {ks : List Key} {ds : List D} {vs : List V} {S : List Addr}, ks.length = vs.length → RpL C R H ds vs S →
    (∀ d, VL.lookK k ks ds = some d → ∃ v S1, valV (ks.zip vs) k = some v ∧ Rp C R H d v S1) ∧ (VL.lookK k ks ds = none → valV (ks.zip vs) k = none)
  | [], ds, vs, S, hl, h => by
    refine ⟨fun d e => ?_, fun _ => ?_⟩
    · unfold VL.lookK at e; cases e
    · rw [List.zip_nil_left]; rfl
  | k' :: ks, [], vs, S, hl, h => by
    have e := h.length
    rw [← e] at hl
    cases hl
  | k' :: ks, d :: ds, vs, S, hl, h => by
    unfold RpL at h
    obtain ⟨v, vs', S1, S2, e1, e2, h1, h2⟩ := h
    subst e1
    have ih := RpL.lookK (k := k) (ks := ks) (by simpa using hl) h2
    unfold VL.lookK
    rw [List.zip_cons_cons]
    by_cases hk : k' = k
    · rw [if_pos hk, valV_pos hk]
      exact ⟨fun d' e => ⟨v, S1, rfl, by cases e; exact h1⟩, fun e => by cases e⟩
    · rw [if_neg hk, valV_neg hk]
      exact ih
theorem Rp.key {C : Ct} {R : Addr → Prop} {H : Hp} {d : D} {v : V} {S : List Addr} {k : Key} (h : Rp C R H d v S) (e : keyD d = some k) : v = kV k := by
  cases d with
  | int i => cases e; exact h.1
  | str i => cases e; exact h.1
  | non => cases e
  | bl _ => cases e
  | nd _ _ _ => cases e
def IxV (X : Cx) (g : D → D → Option D) : Prop := ∃ r, IxR X r ∧
  ∀ d1 d2 d, g d1 d2 = some d → ∀ (R : Addr → Prop) (H : Hp) (v1 v2 : V) (S1 S2 : List Addr) (Q : VK), (∀ a, R a → H a ≠ none) → Rp (ct X) R H d1 v1 S1 → Rp (ct X) R H d2 v2 S2 →
    (∀ v H' T, Same H H' → Rp (ct X) R H' d v T → Q v H') → r v1 v2 H Q
theorem ixv (hu : X.A.units + 1 < cLine) : IxV X gIx := by
  refine ⟨_, IxR.or ix_seq (ix_dict hu), fun d1 d2 d e R H v1 v2 S1 S2 Q dm r1 r2 q => ?_⟩
  unfold gIx at e
  split at e
  · obtain ⟨a, vs, S', rfl, sa, ra⟩ := rp_lst r1
    obtain ⟨v, T, e1, e2⟩ := ra.atI e
    exact .inl (.inl ⟨a, vs, _, v, rfl, r2.1, sa, e1, q v H T (Same.refl H) e2⟩)
  · obtain ⟨a, vs, rfl, sa, ra⟩ := rp_tup r1
    obtain ⟨v, T, e1, e2⟩ := ra.atI e
    exact .inl (.inr (.inl ⟨a, vs, _, v, rfl, r2.1, sa, e1, q v H T (Same.refl H) e2⟩))
  · split at e
    · rename_i hz
      obtain ⟨c, e1, e2⟩ := Option.map_eq_some_iff.mp e
      subst e2
      exact .inl (.inr (.inr ⟨_, _, c, r1.1, r2.1, hz, e1, q _ H [] (Same.refl H) ⟨rfl, rfl⟩⟩))
    · cases e
  · rename_i ks m ds
    obtain ⟨k, e1, e2⟩ := Option.bind_eq_some_iff.mp e
    obtain ⟨a, vs, S', rfl, ha, hl, ra⟩ := rp_dct r1
    obtain ⟨v, T, f1, f2⟩ := (RpL.lookK hl ra).1 d e2
    rw [r2.key e1]
    refine .inr ⟨a, v, rfl, ?_, q v H T (Same.refl H) f2⟩
    rw [← f1]
    exact .inl ⟨_, k, ha, rfl, rfl⟩
  · cases e
theorem pb_ix {W : Wi} {pos : Pos} {a b : Expr} {f1 f2 : Fb} (hu : X.A.units + 1 < cLine) (ha : PB X W a f1) (hb : PB X W b f2) (hs : PlainIx b := by exact fun _ _ => rfl) : PB X W (.Subscript a b pos) (bBin gIx f1 f2) := by
  obtain ⟨r, hr, hg⟩ := ixv hu
  refine pe_imp (pe_ix hr ha hb hs) fun σ H Q h => ?_
  obtain ⟨s, R, S, rel, p⟩ := h
  refine tB_seq rel p (fun c h => h) (fun h => h) fun d1 v1 H1 T1 e1 p1 k1 r1 => ?_
  refine tB_seq (rel.same k1) (PostB.later k1 p1) (fun c h => h) (fun h => h) fun d2 v2 H2 T2 e2 p2 k2 r2 => ?_
  cases e : gIx d1 d2 with
  | none => rw [e] at p2; exact p2.elim
  | some d =>
    rw [e] at p2
    have dm := (rel.same k1).dom
    exact hg d1 d2 d e R H2 v1 v2 T1 T2 Q (rel.same (k1.trans k2)).dom (r1.same dm k2) r2 (PostB.later (r := .ok d) k2 p2)
end
end VL
/-! # VL4: slices, arguments, displays, calls of builtins, in, tests -/
namespace VL
open PySem PySem.Spec PyProof.Rows L2
/-! ### slices -/
def cutA {α : Type} (xs : List α) (lo hi : Option Int) : List α := (xs.drop (HT.sIx xs.length 0 lo)).take (HT.sIx xs.length xs.length hi - HT.sIx xs.length 0 lo)
def gSl : D → Option Int → Option Int → Option D
  | .nd .lst _ ds, lo, hi => if shrL (cutA ds lo hi) = true then some (.lst true (cutA ds lo hi)) else none
  | .nd .tup _ ds, lo, hi => if shrL (cutA ds lo hi) = true then some (.tup (cutA ds lo hi)) else none
  | .str z, lo, hi => if z.length ≤ sizeLine then some (.str (cutS z lo hi)) else none
  | _, _, _ => none
abbrev Fp := Slots → Rb (Option Int)
def bNoPart : Fp := fun _ => .ok none
def bPart (f : Fb) : Fp := fun s => (f s).bind fun d => match d with
  | .int i => .ok (some i)
  | _ => .stuck
def bSl (f : Fb) (lo hi : Fp) : Fb := fun s => (f s).bind fun d => (lo s).bind fun l => (hi s).bind fun u => Rb.of (gSl d l u)
def PostP (C : Ct) (W : Wi) (σ : L2.St) (H : Hp) (Q : Option Int → Hp → Prop) : Rb (Option Int) → Prop
  | .ok o => ∀ H', Same H H' → Q o H'
  | .err c => ∀ H' cl, Same H H' → C.mg c = some (.ref cl) → W.w (.ref cl) none σ H'
  | .stuck => False
def tP (C : Ct) (W : Wi) (f : Fp) : TO := fun σ H Q => ∃ s R S, Rel C W R H s σ S ∧ PostP C W σ H Q (f s)
abbrev PP (X : Cx) (W : Wi) (e : Option Expr) (f : Fp) : Prop := L2.PO X e (tP (ct X) W f)
section
variable {X : Cx} {W : Wi} {pos p2 : Pos}
theorem po_imp {e : Option Expr} {t t' : TO} (h : L2.PO X e t) (i : ∀ σ H Q, t' σ H Q → t σ H Q) : L2.PO X e t' := ⟨fun pins s σ H Q I q => h.run pins s σ H Q I (i σ H Q q)⟩
theorem pp_none : PP X W none bNoPart := po_imp po_none fun σ H Q h => by
  obtain ⟨s, R, S, rel, p⟩ := h
  exact p H (Same.refl H)
theorem pp_some {e : Expr} {f : Fb} (h : PB X W e f) : PP X W (some e) (bPart f) := po_imp (po_some h) fun σ H Q h => by
  obtain ⟨s, R, S, rel, p⟩ := h
  refine tB_seq (P := PostP (ct X) W σ H Q) rel p (fun c h => h) (fun h => h) fun d v H' T e p k r => ?_
  cases d with
  | int i => exact ⟨i, r.1, p H' k⟩
  | non => exact p.elim
  | bl _ => exact p.elim
  | str _ => exact p.elim
  | nd _ _ _ => exact p.elim
theorem RpL.cut {C : Ct} {R : Addr → Prop} {H : Hp} {ds : List D} {vs : List V} {S : List Addr} (h : RpL C R H ds vs S) (lo hi : Option Int) (q : shrL (cutA ds lo hi) = true) : RpL C R H (cutA ds lo hi) (cutV vs lo hi) [] := by
  have l := h.length
  unfold cutA cutV at *
  rw [← l]
  obtain ⟨S1, h1⟩ := h.drop (HT.sIx ds.length 0 lo)
  obtain ⟨S2, h2⟩ := h1.take (HT.sIx ds.length ds.length hi - HT.sIx ds.length 0 lo)
  exact h2.nilS q
theorem PostP.later {C : Ct} {σ : L2.St} {H : Hp} {Q : Option Int → Hp → Prop} {H1 : Hp} {r : Rb (Option Int)} (sm : Same H H1) (h : PostP C W σ H Q r) : PostP C W σ H1 Q r := by
  cases r with
  | ok d => exact fun H' k => h H' (sm.trans k)
  | err c => exact fun H' cl k e => h H' cl (sm.trans k) e
  | stuck => exact h
theorem tP_seq {C : Ct} {σ : L2.St} {H : Hp} {f : Fp} {s : Slots} {R : Addr → Prop} {S : List Addr} {α : Type} {k : Option Int → Rb α} {P : Rb α → Prop} {Q : Option Int → Hp → Prop} (rel : Rel C W R H s σ S) (p : P ((f s).bind k))
    (herr : ∀ c, P (.err c) → ∀ H' cl, Same H H' → C.mg c = some (.ref cl) → W.w (.ref cl) none σ H') (hst : P .stuck → False)
    (hok : ∀ d H', f s = .ok d → P (k d) → Same H H' → Q d H') : tP C W f σ H Q := by
  refine ⟨s, R, S, rel, ?_⟩
  cases e : f s with
  | ok d => rw [e] at p; exact fun H' sm => hok d H' e p sm
  | err c => rw [e] at p; exact herr c p
  | stuck => rw [e] at p; exact hst p
theorem pf_slice {a : Expr} {lo hi : Option Expr} {f : Fb} {l h : Fp} (ha : PB X W a f) (hl : PP X W lo l) (hh : PP X W hi h) : PF X W (.Subscript a (.Slice lo hi none p2) pos) (bSl f l h) := by
  refine pe_imp (pe_slice (SlR.or sl_list (SlR.or sl_tupA sl_str)) ha hl hh) fun σ H Q hq => ?_
  obtain ⟨s, R, S, rel, p⟩ := hq
  refine tB_seq rel p (fun c h => h) (fun h => h) fun d v H1 T e p k1 r => ?_
  refine tP_seq (rel.same k1) (PostF.later k1 p) (fun c h => h) (fun h => h) fun lo H2 e2 p2 k2 => ?_
  refine tP_seq (rel.same (k1.trans k2)) (PostF.later k2 p2) (fun c h => h) (fun h => h) fun hi H3 e3 p3 k3 => ?_
  have dm2 := (rel.same (k1.trans (k2.trans k3))).dom
  have r3 := r.same (rel.same k1).dom (k2.trans k3)
  have p4 := PostF.later k3 p3
  cases z : gSl d lo hi with
  | none => rw [z] at p4; exact p4.elim
  | some d' =>
    rw [z] at p4
    unfold gSl at z
    split at z
    · split at z
      · rename_i hs
        cases z
        obtain ⟨a, vs, S', rfl, sa, ra⟩ := rp_lst r3
        refine .inl ⟨a, vs, rfl, sa, fun p hp => ?_⟩
        have z := rp_newL (H := H3) dm2 (Same.refl H3) hp (ra.cut _ _ hs) List.nodup_nil (by simp)
        exact p4 _ _ _ z.1 z.2.1 z.2.2.1 z.2.2.2
      · cases z
    · split at z
      · rename_i hs
        cases z
        obtain ⟨a, vs, rfl, sa, ra⟩ := rp_tup r3
        refine .inr (.inl ⟨a, vs, rfl, sa, fun hw => ?_, fun _ p hp => ?_⟩)
        · have ec := ra.cut lo hi hs
          refine p4 _ H3 [] (Same.refl H3) ?_ List.nodup_nil (by simp)
          unfold Rp
          refine ⟨a, _, [], rfl, ⟨?_, rfl⟩, ec⟩
          have e5 : cutV vs lo hi = vs := by
            unfold cutV
            rw [hw.1, hw.2, List.drop_zero, Nat.sub_zero, List.take_length]
          rw [e5]; exact sa
        · have z := rp_newT (H := H3) dm2 (Same.refl H3) hp (ra.cut _ _ hs)
          exact p4 _ _ _ z.1 z.2 List.nodup_nil (by simp)
      · cases z
    · split at z
      · rename_i hz
        cases z
        exact .inr (.inr ⟨_, r3.1, hz, p4 _ H3 [] (Same.refl H3) ⟨rfl, rfl⟩ List.nodup_nil (by simp)⟩)
      · cases z
    · cases z
/-! ### arguments -/
def bNil : Slots → Rb (List D) := fun _ => .ok []
def bCons (f : Fb) (g : Slots → Rb (List D)) : Slots → Rb (List D) := fun s => (f s).bind fun d => (g s).bind fun ds => .ok (d :: ds)
theorem pbs_nil : PBs X W [] bNil := pa_imp pa_nil fun σ H Q h => by
  obtain ⟨s, R, S, rel, p⟩ := h
  exact p [] H [] (Same.refl H) RpL.nil
theorem pfs_nil : PFs X W [] bNil := pa_imp pa_nil fun σ H Q h => by
  obtain ⟨s, R, S, rel, p⟩ := h
  exact p [] H [] (Same.refl H) RpL.nil List.nodup_nil (by simp)
theorem tBs_seq {C : Ct} {σ : L2.St} {H : Hp} {f : Slots → Rb (List D)} {s : Slots} {R : Addr → Prop} {S : List Addr} {α : Type} {k : List D → Rb α} {P : Rb α → Prop} {Q : List V → Hp → Prop} (rel : Rel C W R H s σ S) (p : P ((f s).bind k))
    (herr : ∀ c, P (.err c) → ∀ H' cl, Same H H' → C.mg c = some (.ref cl) → W.w (.ref cl) none σ H') (hst : P .stuck → False)
    (hok : ∀ d v H' T, f s = .ok d → P (k d) → Same H H' → RpL C R H' d v T → Q v H') : tBs C W f σ H Q := by
  refine ⟨s, R, S, rel, ?_⟩
  cases e : f s with
  | ok d => rw [e] at p; exact fun v H' T sm r => hok d v H' T e p sm r
  | err c => rw [e] at p; exact herr c p
  | stuck => rw [e] at p; exact hst p
theorem tFs_seq {C : Ct} {σ : L2.St} {H : Hp} {f : Slots → Rb (List D)} {s : Slots} {R : Addr → Prop} {S : List Addr} {α : Type} {k : List D → Rb α} {P : Rb α → Prop} {Q : List V → Hp → Prop} (rel : Rel C W R H s σ S) (p : P ((f s).bind k))
    (herr : ∀ c, P (.err c) → ∀ H' cl, Same H H' → C.mg c = some (.ref cl) → W.w (.ref cl) none σ H') (hst : P .stuck → False)
    (hok : ∀ d v H' T, f s = .ok d → P (k d) → Same H H' → RpL C R H' d v T → T.Nodup → (∀ a ∈ T, H a = none) → Q v H') : tFs C W f σ H Q := by
  refine ⟨s, R, S, rel, ?_⟩
  cases e : f s with
  | ok d => rw [e] at p; exact fun v H' T sm r => hok d v H' T e p sm r
  | err c => rw [e] at p; exact herr c p
  | stuck => rw [e] at p; exact hst p
theorem tF_seq {C : Ct} {σ : L2.St} {H : Hp} {f : Fb} {s : Slots} {R : Addr → Prop} {S : List Addr} {α : Type} {k : D → Rb α} {P : Rb α → Prop} {Q : VK} (rel : Rel C W R H s σ S) (p : P ((f s).bind k))
    (herr : ∀ c, P (.err c) → ∀ H' cl, Same H H' → C.mg c = some (.ref cl) → W.w (.ref cl) none σ H') (hst : P .stuck → False)
    (hok : ∀ d v H' T, f s = .ok d → P (k d) → Same H H' → Rp C R H' d v T → T.Nodup → (∀ a ∈ T, H a = none) → Q v H') : tF C W f σ H Q := by
  refine ⟨s, R, S, rel, ?_⟩
  cases e : f s with
  | ok d => rw [e] at p; exact fun v H' T sm r => hok d v H' T e p sm r
  | err c => rw [e] at p; exact herr c p
  | stuck => rw [e] at p; exact hst p
theorem tT_seq {C : Ct} {σ : L2.St} {H : Hp} {f : Slots → Rb Bool} {s : Slots} {R : Addr → Prop} {S : List Addr} {α : Type} {k : Bool → Rb α} {P : Rb α → Prop} {Q : Bool → Hp → Prop} (rel : Rel C W R H s σ S) (p : P ((f s).bind k))
    (herr : ∀ c, P (.err c) → ∀ H' cl, Same H H' → C.mg c = some (.ref cl) → W.w (.ref cl) none σ H') (hst : P .stuck → False)
    (hok : ∀ d H', f s = .ok d → P (k d) → Same H H' → Q d H') : tT C W f σ H Q := by
  refine ⟨s, R, S, rel, ?_⟩
  cases e : f s with
  | ok d => rw [e] at p; exact fun H' sm => hok d H' e p sm
  | err c => rw [e] at p; exact herr c p
  | stuck => rw [e] at p; exact hst p
theorem pbs_cons {e : Expr} {es : List Expr} {f : Fb} {g : Slots → Rb (List D)} (ha : PB X W e f) (hr : PBs X W es g) (hs : starEach (e :: es) X.env = (false, eval e X.env) :: starEach es X.env := by rfl) : PBs X W (e :: es) (bCons f g) := by
  refine pa_imp (pa_cons ha hr hs) fun σ H Q h => ?_
  obtain ⟨s, R, S, rel, p⟩ := h
  refine tB_seq rel p (fun c h => h) (fun h => h) fun d v H1 T e p k1 r => ?_
  refine tBs_seq (rel.same k1) (PostL.later k1 p) (fun c h => h) (fun h => h) fun ds vs H2 T2 e2 p2 k2 r2 => ?_
  exact p2 _ H2 _ k2 (RpL.cons (r.same (rel.same k1).dom k2) r2)
theorem nodup_app {T1 T2 : List Addr} {H H1 : Hp} (n1 : T1.Nodup) (n2 : T2.Nodup) (o1 : ∀ a ∈ T1, H1 a ≠ none) (f2 : ∀ a ∈ T2, H1 a = none) : (T1 ++ T2).Nodup :=
  List.nodup_append.mpr ⟨n1, n2, fun a ha b hb e => by subst e; exact o1 a ha (f2 a hb)⟩
theorem pfs_cons {e : Expr} {es : List Expr} {f : Fb} {g : Slots → Rb (List D)} (ha : PF X W e f) (hr : PFs X W es g) (hs : starEach (e :: es) X.env = (false, eval e X.env) :: starEach es X.env := by rfl) : PFs X W (e :: es) (bCons f g) := by
  refine pa_imp (pa_cons ha hr hs) fun σ H Q h => ?_
  obtain ⟨s, R, S, rel, p⟩ := h
  refine tF_seq rel p (fun c h => h) (fun h => h) fun d v H1 T e p k1 r n1 f1 => ?_
  refine tFs_seq (P := PostLF (ct X) W R σ H Q) (rel.same k1) p (fun c h H' cl k e => h H' cl (k1.trans k) e) (fun h => h) fun ds vs H2 T2 e2 p2 k2 r2 n2 f2 => ?_
  have rr := RpL.cons (r.same (rel.same k1).dom k2) r2
  refine p2 _ H2 (T ++ T2) (k1.trans k2) rr (nodup_app (H := H) n1 n2 (fun a ha => (r.owns a ha).some) f2) fun a ha => ?_
  rcases List.mem_append.mp ha with ha | ha
  · exact f1 a ha
  · exact k1.free (f2 a ha)
/-! ### displays -/
def bLst (g : Slots → Rb (List D)) : Fb := fun s => (g s).bind fun ds => if ds.length ≤ sizeLine then .ok (.lst true ds) else .stuck
def bTup (g : Slots → Rb (List D)) : Fb := fun s => (g s).bind fun ds => if ds.length ≤ sizeLine then .ok (.tup ds) else .stuck
theorem pf_lst {es : List Expr} {g : Slots → Rb (List D)} (h : PFs X W es g) : PF X W (.List es pos) (bLst g) := by
  refine pe_imp (pe_lst h) fun σ H Q q => ?_
  obtain ⟨s, R, S, rel, p⟩ := q
  refine tFs_seq rel p (fun c h => h) (fun h => h) fun ds vs H1 T e p k r n f => ?_
  by_cases hl : ds.length ≤ sizeLine
  · rw [if_pos hl] at p
    refine ⟨by rw [← r.length]; exact hl, fun a ha => ?_⟩
    have z := rp_newL (rel.same k).dom k ha r n f
    exact p _ _ _ z.1 z.2.1 z.2.2.1 z.2.2.2
  · rw [if_neg hl] at p; exact p.elim
theorem pf_tup {es : List Expr} {g : Slots → Rb (List D)} {x1} (h : PFs X W es g) : PF X W (.Tuple es x1 pos) (bTup g) := by
  refine pe_imp (pe_tup h) fun σ H Q q => ?_
  obtain ⟨s, R, S, rel, p⟩ := q
  refine tFs_seq rel p (fun c h => h) (fun h => h) fun ds vs H1 T e p k r n f => ?_
  by_cases hl : ds.length ≤ sizeLine
  · rw [if_pos hl] at p
    refine ⟨by rw [← r.length]; exact hl, fun a ha => ?_⟩
    have z := rp_newT (rel.same k).dom k ha r
    exact p _ _ _ z.1 z.2 n f
  · rw [if_neg hl] at p; exact p.elim
/-! ### one-place operators -/
def UnV (X : Cx) (f : Value → Sem Value) (g : D → Option D) : Prop := ∃ r, UnR X f r ∧
  ∀ d1 d, g d1 = some d → ∀ (R : Addr → Prop) (H : Hp) (v1 : V) (S1 : List Addr) (Q : VK), (∀ a, R a → H a ≠ none) → Rp (ct X) R H d1 v1 S1 →
    (∀ v H' T, Same H H' → Rp (ct X) R H' d v T → T.Nodup → (∀ a ∈ T, H a = none) → Q v H') → r v1 H Q
def bUn (g : D → Option D) (f : Fb) : Fb := fun s => (f s).bind fun d => Rb.of (g d)
theorem pf_un {op : UnaryOp} {g : D → Option D} {a : Expr} {f : Fb} (ho : UnV X (unaryOp op) g) (ha : PB X W a f) : PF X W (.UnaryOp op a pos) (bUn g f) := by
  obtain ⟨r, hr, hg⟩ := ho
  refine pe_imp (pe_un hr ha) fun σ H Q q => ?_
  obtain ⟨s, R, S, rel, p⟩ := q
  refine tB_seq rel p (fun c h => h) (fun h => h) fun d v H1 T e p k r => ?_
  cases z : g d with
  | none => rw [z] at p; exact p.elim
  | some d' =>
    rw [z] at p
    exact hg d d' z R H1 v T Q (rel.same k).dom r (PostF.later (r := .ok d') k p)
def gNeg : D → Option D
  | .int i => some (.int (-i))
  | _ => none
theorem uv_neg : UnV X (unaryOp .USub) gNeg := ⟨_, un_neg, fun d1 d e R H v1 S1 Q dm r q => by
  unfold gNeg at e
  split at e
  · cases e
    exact ⟨_, r.1, q _ H [] (Same.refl H) ⟨rfl, rfl⟩ List.nodup_nil (by simp)⟩
  · cases e⟩
/-! ### calls of builtins -/
def CallV (X : Cx) (f : Value) (g : List D → Option D) : Prop := ∃ r, CallR X f r ∧
  ∀ ds d, g ds = some d → ∀ (R : Addr → Prop) (H : Hp) (vs : List V) (S : List Addr) (Q : VK), (∀ a, R a → H a ≠ none) → RpL (ct X) R H ds vs S →
    (∀ v H' T, Same H H' → Rp (ct X) R H' d v T → T.Nodup → (∀ a ∈ T, H a = none) → Q v H') → r vs H Q
def bCB (g : List D → Option D) (f : Slots → Rb (List D)) : Fb := fun s => (f s).bind fun ds => Rb.of (g ds)
theorem tCB_of {f : Value} {g : List D → Option D} {h : Slots → Rb (List D)} (hc : CallV X f g) : ∃ r, CallR X f r ∧ ∀ {σ : L2.St} {H : Hp} {Q : VK}, tF (ct X) W (bCB g h) σ H Q → tCB r (tBs (ct X) W h) σ H Q := by
  obtain ⟨r, hr, hg⟩ := hc
  refine ⟨r, hr, fun {σ H Q} q => ?_⟩
  obtain ⟨s, R, S, rel, p⟩ := q
  refine tBs_seq rel p (fun c h => h) (fun h => h) fun ds vs H1 T e p k r => ?_
  cases z : g ds with
  | none => rw [z] at p; exact p.elim
  | some d' =>
    rw [z] at p
    exact hg ds d' z R H1 vs T Q (rel.same k).dom r (PostF.later (r := .ok d') k p)
theorem pf_callB {id : String} {x : Str} {p pos : Pos} {e : Expr} {es : List Expr} {g : List D → Option D} {h : Slots → Rb (List D)} (hc : CallV X (.builtin id) g) (hg : Gl X x) (hm : X.mg x = none) (hv : bootBuiltins x = some (.builtin id)) (ha : PBs X W (e :: es) h) (hn : x ≠ "__name__" := by decide) (hdb : (x == ("__debug__" : Str)) = false := by decide)
    (he : starEach (e :: es) X.env = (false, eval e X.env) :: starEach es X.env := by rfl) (hpl : (backTo pos (starEach es X.env)).any (·.1) = false := by rfl) : PF X W (.Call (.Name x p) (e :: es) [] pos) (bCB g h) := by
  obtain ⟨r, hr, hi⟩ := tCB_of (W := W) (h := h) hc
  exact pe_imp (pe_callB hr hg hm hv ha hn hdb he hpl) fun σ H Q q => hi q
theorem pf_callTy {T : String} {x : Str} {p pos : Pos} {e : Expr} {es : List Expr} {g : List D → Option D} {h : Slots → Rb (List D)} (hc : CallV X (.type T) g) (hg : Gl X x) (hm : X.mg x = none) (hv : bootBuiltins x = some (.type T)) (ha : PBs X W (e :: es) h) (hn : x ≠ "__name__" := by decide) (hdb : (x == ("__debug__" : Str)) = false := by decide)
    (he : starEach (e :: es) X.env = (false, eval e X.env) :: starEach es X.env := by rfl) (hpl : (backTo pos (starEach es X.env)).any (·.1) = false := by rfl) : PF X W (.Call (.Name x p) (e :: es) [] pos) (bCB g h) := by
  obtain ⟨r, hr, hi⟩ := tCB_of (W := W) (h := h) hc
  exact pe_imp (pe_callTy hr hg hm hv ha hn hdb he hpl) fun σ H Q q => hi q
theorem rpl1 {C : Ct} {R : Addr → Prop} {H : Hp} {d : D} {vs : List V} {S : List Addr} (h : RpL C R H [d] vs S) : ∃ v S1, vs = [v] ∧ Rp C R H d v S1 := by
  unfold RpL at h
  obtain ⟨v, vs', S1, S2, e1, e2, h1, h2⟩ := h
  unfold RpL at h2
  exact ⟨v, S1, by rw [e1, h2.1], h1⟩
theorem rpl2 {C : Ct} {R : Addr → Prop} {H : Hp} {d e : D} {vs : List V} {S : List Addr} (h : RpL C R H [d, e] vs S) : ∃ v w S1 S2, vs = [v, w] ∧ Rp C R H d v S1 ∧ Rp C R H e w S2 := by
  unfold RpL at h
  obtain ⟨v, vs', S1, S2, e1, e2, h1, h2⟩ := h
  obtain ⟨w, S3, e3, h3⟩ := rpl1 h2
  exact ⟨v, w, S1, S3, by rw [e1, e3], h1, h3⟩
theorem call_lenR : CallR X (.builtin "len") (fun xs H Q => ∃ a kvs, xs = [V.ref a] ∧ Rd H a (.dK kvs) ∧ Q (.int kvs.length) H) := by
  intro pins s σ H xs us Q I r h
  obtain ⟨a, kvs, rfl, ha, q⟩ := h
  obtain ⟨u, rfl, ru⟩ := vals1 r
  cases ru
  exact d_len I ha fun t s' I' => ⟨.int kvs.length, H, I', ⟨t, rfl⟩, q⟩
def gLen : List D → Option D
  | [.nd .lst _ ds] => some (.int ds.length)
  | [.nd .tup _ ds] => some (.int ds.length)
  | [.nd (.dct ks) _ _] => some (.int ks.length)
  | [.str z] => if z.length ≤ sizeLine then some (.int z.length) else none
  | _ => none
theorem cv_len : CallV X (.builtin "len") gLen := ⟨_, CallR.or call_len_seq (CallR.or call_len_str call_lenR), fun ds d e R H vs S Q dm r q => by
  unfold gLen at e
  split at e
  · cases e
    obtain ⟨v, S1, rfl, r1⟩ := rpl1 r
    obtain ⟨a, vs, S', rfl, sa, ra⟩ := rp_lst r1
    exact .inl ⟨a, vs, rfl, .inl sa, q _ H [] (Same.refl H) ⟨by rw [ra.length], rfl⟩ List.nodup_nil (by simp)⟩
  · cases e
    obtain ⟨v, S1, rfl, r1⟩ := rpl1 r
    obtain ⟨a, vs, rfl, sa, ra⟩ := rp_tup r1
    exact .inl ⟨a, vs, rfl, .inr sa, q _ H [] (Same.refl H) ⟨by rw [ra.length], rfl⟩ List.nodup_nil (by simp)⟩
  · cases e
    obtain ⟨v, S1, rfl, r1⟩ := rpl1 r
    obtain ⟨a, vs, S', rfl, ha, hl, ra⟩ := rp_dct r1
    exact .inr (.inr ⟨a, _, rfl, ha, q _ H [] (Same.refl H) ⟨by rw [List.length_zip, hl, Nat.min_self], rfl⟩ List.nodup_nil (by simp)⟩)
  · split at e
    · rename_i hz
      cases e
      obtain ⟨v, S1, rfl, r1⟩ := rpl1 r
      exact .inr (.inl ⟨_, by rw [r1.1], hz, q _ H [] (Same.refl H) ⟨rfl, rfl⟩ List.nodup_nil (by simp)⟩)
    · cases e
  · cases e⟩
def gList : List D → Option D
  | [.nd .lst _ ds] => if shrL ds = true then some (.lst true ds) else none
  | [.nd .tup _ ds] => if shrL ds = true then some (.lst true ds) else none
  | _ => none
theorem cv_list : CallV X (.type "list") gList := ⟨_, call_list_of, fun ds d e R H vs S Q dm r q => by
  unfold gList at e
  split at e
  · split at e
    · rename_i hs
      cases e
      obtain ⟨v, S1, rfl, r1⟩ := rpl1 r
      obtain ⟨a, vs, S', rfl, sa, ra⟩ := rp_lst r1
      refine ⟨a, vs, rfl, .inl sa, fun p hp => ?_⟩
      have z := rp_newL (H := H) dm (Same.refl H) hp (ra.nilS hs) List.nodup_nil (by simp)
      exact q _ _ _ z.1 z.2.1 z.2.2.1 z.2.2.2
    · cases e
  · split at e
    · rename_i hs
      cases e
      obtain ⟨v, S1, rfl, r1⟩ := rpl1 r
      obtain ⟨a, vs, rfl, sa, ra⟩ := rp_tup r1
      refine ⟨a, vs, rfl, .inr sa, fun p hp => ?_⟩
      have z := rp_newL (H := H) dm (Same.refl H) hp (ra.nilS hs) List.nodup_nil (by simp)
      exact q _ _ _ z.1 z.2.1 z.2.2.1 z.2.2.2
    · cases e
  · cases e⟩
def gTuple : List D → Option D
  | [.nd .lst _ ds] => if shrL ds = true then some (.tup ds) else none
  | [.nd .tup _ ds] => if shrL ds = true then some (.tup ds) else none
  | _ => none
theorem cv_tuple : CallV X (.type "tuple") gTuple := ⟨_, call_tuple_of, fun ds d e R H vs S Q dm r q => by
  unfold gTuple at e
  split at e
  · split at e
    · rename_i hs
      cases e
      obtain ⟨v, S1, rfl, r1⟩ := rpl1 r
      obtain ⟨a, vs, S', rfl, sa, ra⟩ := rp_lst r1
      refine ⟨a, vs, rfl, .inl ⟨sa, fun p hp => ?_⟩⟩
      have z := rp_newT (H := H) dm (Same.refl H) hp (ra.nilS hs)
      exact q _ _ _ z.1 z.2 List.nodup_nil (by simp)
    · cases e
  · split at e
    · rename_i hs
      cases e
      obtain ⟨v, S1, rfl, r1⟩ := rpl1 r
      obtain ⟨a, vs, rfl, sa, ra⟩ := rp_tup r1
      refine ⟨a, vs, rfl, .inr ⟨sa, q _ H [] (Same.refl H) ?_ List.nodup_nil (by simp)⟩⟩
      unfold Rp
      exact ⟨a, vs, [], rfl, ⟨sa, rfl⟩, ra.nilS hs⟩
    · cases e
  · cases e⟩
/-- dict(d), a copy -/
def gDict : List D → Option D
  | [.nd (.dct ks) _ ds] => if shrL ds = true then some (.nd (.dct ks) true ds) else none
  | _ => none
theorem rp_newK {C : Ct} {R : Addr → Prop} {H H1 : Hp} {ks : List Key} {ds : List D} {vs : List V} {T : List Addr} {p : Addr} (dm : ∀ a, R a → H1 a ≠ none) (k : Same H H1) (hp : H1 p = none) (hl : ks.length = vs.length) (hk : ks.Nodup) (h : RpL C R H1 ds vs T) (nd : T.Nodup) (fr : ∀ a ∈ T, H a = none) :
    Same H (upd H1 p (.dK (ks.zip vs))) ∧ Rp C R (upd H1 p (.dK (ks.zip vs))) (.nd (.dct ks) true ds) (.ref p) (p :: T) ∧ (p :: T).Nodup ∧ ∀ a ∈ p :: T, H a = none := by
  have hpT : p ∉ T := fun z => (h.owns p z).some hp
  refine ⟨k.trans (same_upd' hp), ?_, List.nodup_cons.mpr ⟨hpT, nd⟩, ?_⟩
  · unfold Rp
    exact ⟨p, vs, T, rfl, ⟨⟨hl, hk⟩, upd_same, rfl⟩, h.same dm (same_upd' hp)⟩
  · intro a ha
    rcases List.mem_cons.mp ha with rfl | ha
    · exact k.free hp
    · exact fr a ha
theorem cv_dict : CallV X (.type "dict") gDict := ⟨_, call_dictD, fun ds d e R H vs S Q dm r q => by
  unfold gDict at e
  split at e
  · split at e
    · rename_i hs
      cases e
      obtain ⟨v, S1, rfl, r1⟩ := rpl1 r
      obtain ⟨a, vs, S', rfl, ha, hl, ra⟩ := rp_dct r1
      refine ⟨a, _, rfl, ha, fun p hp => ?_⟩
      have z := rp_newK (H := H) dm (Same.refl H) hp hl (rp_dctN r1) (ra.nilS hs) List.nodup_nil (by simp)
      exact q _ _ _ z.1 z.2.1 z.2.2.1 z.2.2.2
    · cases e
  · cases e⟩
/-- {} -/
theorem pf_dnew : PF X W (.Dict [] [] pos) (bC (.nd (.dct []) true [])) := pe_imp pe_dnewK fun σ H Q h => by
  obtain ⟨s, R, S, rel, p⟩ := h
  intro a ha
  have z := rp_newK (C := ct X) (ks := []) (ds := []) (vs := []) (T := []) rel.dom (Same.refl H) ha rfl List.nodup_nil RpL.nil List.nodup_nil (by simp)
  exact p _ _ _ z.1 z.2.1 z.2.2.1 z.2.2.2
def gInt : List D → Option D
  | [.int i] => some (.int i)
  | [.bl b] => some (.int (if b then 1 else 0))
  | _ => none
theorem cv_int : CallV X (.type "int") gInt := ⟨_, call_int1, fun ds d e R H vs S Q dm r q => by
  unfold gInt at e
  split at e
  · cases e
    obtain ⟨v, S1, rfl, r1⟩ := rpl1 r
    exact .inl ⟨_, by rw [r1.1], q _ H [] (Same.refl H) ⟨rfl, rfl⟩ List.nodup_nil (by simp)⟩
  · cases e
    obtain ⟨v, S1, rfl, r1⟩ := rpl1 r
    exact .inr ⟨_, by rw [r1.1], q _ H [] (Same.refl H) ⟨rfl, rfl⟩ List.nodup_nil (by simp)⟩
  · cases e⟩
def gMax : List D → Option D
  | [.int i, .int j] => some (.int (if j > i then j else i))
  | _ => none
def gMin : List D → Option D
  | [.int i, .int j] => some (.int (if j < i then j else i))
  | _ => none
theorem cv_max (hc : X.calm = true) : CallV X (.builtin "max") gMax := ⟨_, call_max2 hc, fun ds d e R H vs S Q dm r q => by
  unfold gMax at e
  split at e
  · cases e
    obtain ⟨v, w, S1, S2, rfl, r1, r2⟩ := rpl2 r
    exact ⟨_, _, by rw [r1.1, r2.1], q _ H [] (Same.refl H) ⟨rfl, rfl⟩ List.nodup_nil (by simp)⟩
  · cases e⟩
theorem cv_min (hc : X.calm = true) : CallV X (.builtin "min") gMin := ⟨_, call_min2 hc, fun ds d e R H vs S Q dm r q => by
  unfold gMin at e
  split at e
  · cases e
    obtain ⟨v, w, S1, S2, rfl, r1, r2⟩ := rpl2 r
    exact ⟨_, _, by rw [r1.1, r2.1], q _ H [] (Same.refl H) ⟨rfl, rfl⟩ List.nodup_nil (by simp)⟩
  · cases e⟩
/-- list(range(n)), list(range(a, b)) -/
def gRange : D → D → Option D
  | .int a, .int b => if RgOk' a b = true then some (.lst true ((List.range (b - a).toNat).map fun i => .int (a + (i : Nat)))) else none
  | _, _ => none
where RgOk' (a b : Int) : Bool := decide (-(2 ^ 62) ≤ a ∧ a < 2 ^ 62 ∧ -(2 ^ 62) ≤ b ∧ b < 2 ^ 62 ∧ (b - a).toNat ≤ 2 ^ 24)
end
end VL
/-! # VL5: isinstance, in, chains, tests -/
namespace VL
open PySem PySem.Spec PyProof.Rows L2
section
variable {X : Cx} {W : Wi} {pos p2 : Pos}
/-! ### isinstance(e, T) -/
def tyD : D → Option String
  | .non => some "NoneType"
  | .bl _ => some "bool"
  | .int _ => some "int"
  | .str _ => some "str"
  | .nd .tup _ _ => some "tuple"
  | .nd .lst _ _ => some "list"
  | .nd (.dct _) _ _ => some "dict"
  | _ => none
def gIsi (T : String) (d : D) : Option D := (tyD d).bind fun t => (kitB t T).map .bl
theorem Rp.tyx {C : Ct} {R : Addr → Prop} {H : Hp} {d : D} {v : V} {S : List Addr} {t : String} (h : Rp C R H d v S) (e : tyD d = some t) : TyX C.K H v (.type t) := by
  cases d with
  | non => cases e; rw [h.1]; exact .base .non
  | bl b => cases e; rw [h.1]; exact .base (.bl b)
  | int i => cases e; rw [h.1]; exact .base (.int i)
  | str i => cases e; rw [h.1]; exact .base (.str i)
  | nd k m ds =>
    cases k with
    | tup =>
      cases e
      obtain ⟨a, vs, rfl, sa, ra⟩ := rp_tup h
      rcases sa with (z | ⟨o, z⟩) | ⟨o, its, n, z, z2, _⟩
      · exact .base (.tup z)
      · exact .fTuple z
      · exact .kTuple z z2
    | lst =>
      cases e
      obtain ⟨a, vs, S', rfl, sa, ra⟩ := rp_lst h
      rcases sa with (z | ⟨o, z⟩) | ⟨o, its, n, z, z2, _⟩
      · exact .base (.lst z)
      · exact .base (.frz z)
      · exact .kList z z2
    | dct ks =>
      cases e
      obtain ⟨a, vs, S', rfl, sa, hl, ra⟩ := rp_dct h
      rcases sa with z | ⟨o, z⟩
      · exact .base (.dK z)
      · exact .fDict z
    | ins c fs => cases e
theorem pf_isi {T : String} {x : Str} {p q : Pos} {e : Expr} {f : Fb} (hg : Gl X "isinstance") (hm : X.mg "isinstance" = none) (hgT : Gl X x) (hmT : X.mg x = none) (hT : bootBuiltins x = some (.type T)) (he : PB X W e f) (hnT : x ≠ "__name__" := by decide) (hdT : (x == ("__debug__" : Str)) = false := by decide)
    (h1 : starEach [e, .Name x q] X.env = (false, eval e X.env) :: starEach [.Name x q] X.env := by rfl) (h2 : starEach [.Name x q] X.env = (false, eval (.Name x q) X.env) :: starEach [] X.env := by rfl) (hpl : (backTo pos (starEach [.Name x q] X.env)).any (·.1) = false := by rfl) :
    PF X W (.Call (.Name "isinstance" p) [e, .Name x q] [] pos) (bUn (gIsi T) f) := by
  refine pe_imp (pe_callB call_isi hg hm (by decide +kernel) (pa_cons he (pa_cons (pe_bltn (v := .ty T) hgT hmT hT rfl hnT hdT) pa_nil h2) h1) (by decide) (by decide) h1 hpl) fun σ H Q h => ?_
  obtain ⟨s, R, S, rel, p⟩ := h
  refine tB_seq rel p (fun c h => h) (fun h => h) fun d v H1 T1 e p k r => ?_
  cases z : gIsi T d with
  | none => rw [z] at p; exact p.elim
  | some d' =>
    rw [z] at p
    unfold gIsi at z
    obtain ⟨t, z1, z2⟩ := Option.bind_eq_some_iff.mp z
    obtain ⟨b, z3, z4⟩ := Option.map_eq_some_iff.mp z2
    subst z4
    exact ⟨v, .ty T, .type t, .type T, b, rfl, .ty T, r.tyx z1, kit_ty z3, p _ H1 [] k ⟨rfl, rfl⟩ List.nodup_nil (by simp)⟩
/-! ### in -/
def strsD : List D → Option (List Str)
  | [] => some []
  | .str x :: ds => (strsD ds).map (x :: ·)
  | _ :: _ => none
theorem RpL.strs {C : Ct} {R : Addr → Prop} {H : Hp} : ∀ {ds : List D} {vs : List V} {S : List Addr} {ss : List Str}, RpL C R H ds vs S → strsD ds = some ss → vs = ss.map V.str
  | [], vs, S, ss, h, e => by unfold strsD at e; cases e; unfold RpL at h; exact h.1
  | d :: ds, vs, S, ss, h, e => by
    unfold RpL at h
    obtain ⟨v, vs', S1, S2, e1, e2, h1, h2⟩ := h
    cases d with
    | str x =>
      unfold strsD at e
      obtain ⟨ts, z1, z2⟩ := Option.map_eq_some_iff.mp e
      subst z2
      rw [e1, h1.1, RpL.strs h2 z1]
      rfl
    | non => cases e
    | bl _ => cases e
    | int _ => cases e
    | nd _ _ _ => cases e
theorem all_flat (ss : List Str) : (ss.map V.str).all flatV = true := by
  rw [List.all_eq_true]
  intro v hv
  obtain ⟨x, _, rfl⟩ := List.mem_map.mp hv
  rfl
theorem inV_strs (x : Str) (ss : List Str) : inV (.str x) (ss.map V.str) = ss.any (· == x) := by
  unfold inV
  rw [List.any_map]
  rfl
def bIn (d c : D) : Option Bool := match c with
  | .nd .tup _ ds => match d with
    | .str x => (strsD ds).map fun ss => ss.any (· == x)
    | _ => none
  | .nd .lst _ ds => match toPy d, toPyL ds with
    | some p, some ps => if (SeqAt.shaped p && SeqAt.shaped (.list ps)) = true then some (ps.any fun z => PyData.eqv z p) else none
    | _, _ => none
  | .nd (.dct ks) _ ds => (keyD d).map fun k => (lookK k ks ds).isSome
  | .str z => match d with
    | .str x => match x.cps.toList with
      | [n] => some (decide (n ∈ z.cps.toList))
      | _ => none
    | _ => none
  | _ => none
def gIn (d c : D) : Option D := (bIn d c).map .bl
def gNotIn (d c : D) : Option D := (bIn d c).map fun b => .bl (!b)
/-- what in asks, neg: not in -/
def rInU (K : PySem.W.Frag) (neg : Bool) : R2 := fun x y H Q => rIn K neg x y H Q ∨ (∃ d ds, Dp K H x d ∧ Dp K H y (.list ds) ∧ SeqAt.shaped d = true ∧ SeqAt.shaped (.list ds) = true ∧ Q (.bl (if neg then !(ds.any fun z => PyData.eqv z d) else ds.any fun z => PyData.eqv z d)) H) ∨
  (∃ a ov, y = .ref a ∧ DGet H a x ov ∧ Q (.bl (if neg then !ov.isSome else ov.isSome)) H) ∨ ∃ (c : Nat) (z : Str), x = .str ⟨#[c]⟩ ∧ y = .str z ∧ Q (.bl (if neg then !decide (c ∈ z.cps.toList) else decide (c ∈ z.cps.toList))) H
theorem op_inU (hu : X.A.units + 65 < cLine) : OpR X (compareOp .In) (rInU X.K false) := by
  intro pins s σ H x y v u Q I rx ry h
  rcases h with h | ⟨d, ds, h⟩ | ⟨a, ov, rfl, g, q⟩ | ⟨c, z, h⟩
  · exact op_in_seq pins s σ H x y v u Q I rx ry h
  · exact op_inD hu pins s σ H x y v u Q I rx ry ⟨d, ds, h⟩
  · obtain rfl : u = Value.ref a := ry
    exact d_in (by omega) I g rx fun s' I' => ⟨.bl ov.isSome, H, I', rfl, q⟩
  · exact op_in_sign pins s σ H x y v u Q I rx ry ⟨c, z, h⟩
theorem op_notInU (hu : X.A.units + 65 < cLine) : OpR X (compareOp .NotIn) (rInU X.K true) := by
  intro pins s σ H x y v u Q I rx ry h
  rcases h with h | ⟨d, ds, h⟩ | ⟨a, ov, rfl, g, q⟩ | ⟨c, z, h⟩
  · exact op_notIn_seq pins s σ H x y v u Q I rx ry h
  · exact op_notInD hu pins s σ H x y v u Q I rx ry ⟨d, ds, h⟩
  · obtain rfl : u = Value.ref a := ry
    exact d_notIn (by omega) I g rx fun s' I' => ⟨.bl (!ov.isSome), H, I', rfl, q⟩
  · exact op_notIn_sign pins s σ H x y v u Q I rx ry ⟨c, z, h⟩
theorem rIn_of {neg : Bool} {d1 d2 : D} {b : Bool} {R : Addr → Prop} {H : Hp} {v1 v2 : V} {S1 S2 : List Addr} {Q : VK} (e : bIn d1 d2 = some b) (r1 : Rp (ct X) R H d1 v1 S1) (r2 : Rp (ct X) R H d2 v2 S2) (q : Q (.bl (if neg then !b else b)) H) :
    rInU X.K neg v1 v2 H Q := by
  unfold bIn at e
  split at e
  · obtain ⟨a, vs, rfl, sa, ra⟩ := rp_tup r2
    split at e
    · rename_i x
      obtain ⟨ss, z1, z2⟩ := Option.map_eq_some_iff.mp e
      have hv := ra.strs z1
      subst hv
      rw [r1.1]
      refine .inl ⟨a, _, rfl, .inr sa, rfl, all_flat ss, ?_⟩
      rw [inV_strs, z2]
      exact q
    · cases e
  · obtain ⟨a, vs, S', rfl, sa, ra⟩ := rp_lst r2
    split at e
    · rename_i p ps z1 z2
      split at e
      · rename_i hs
        rw [Bool.and_eq_true] at hs
        have z := Option.some.inj e
        subst z
        exact .inr (.inl ⟨p, ps, r1.dp z1, .lst sa (ra.dp z2), hs.1, hs.2, q⟩)
      · cases e
    · cases e
  · rename_i ks m ds
    obtain ⟨k, z1, z2⟩ := Option.map_eq_some_iff.mp e
    obtain ⟨a, vs, S', rfl, sa, hl, ra⟩ := rp_dct r2
    rw [r1.key z1]
    refine .inr (.inr (.inl ⟨a, valV (ks.zip vs) k, rfl, .inl ⟨_, k, sa, rfl, rfl⟩, ?_⟩))
    have l := RpL.lookK (k := k) hl ra
    have e3 : (valV (ks.zip vs) k).isSome = b := by
      rw [← z2]
      cases z : lookK k ks ds with
      | none => rw [l.2 z]; rfl
      | some d =>
        obtain ⟨v, T, w1, w2⟩ := l.1 d z
        rw [w1]; rfl
    rw [e3]
    exact q
  · rename_i z
    split at e
    · rename_i x
      split at e
      · rename_i n hx
        have ex : x = ⟨#[n]⟩ := by
          obtain ⟨a⟩ := x
          have : a = #[n] := Array.ext' hx
          rw [this]
        rw [r1.1, r2.1, ex]
        have z := Option.some.inj e
        subst z
        exact .inr (.inr (.inr ⟨n, _, rfl, rfl, q⟩))
      · cases e
    · cases e
  · cases e
theorem ov_in (hu : X.A.units + 65 < cLine) : OpV X (compareOp .In) gIn := .mk (op_inU hu) fun d1 d2 d e R H v1 v2 S1 S2 Q dm r1 r2 q => by
  unfold gIn at e
  obtain ⟨b, e1, e2⟩ := Option.map_eq_some_iff.mp e
  subst e2
  exact rIn_of e1 r1 r2 (q _ H [] (Same.refl H) ⟨rfl, rfl⟩ List.nodup_nil (by simp))
theorem ov_notIn (hu : X.A.units + 65 < cLine) : OpV X (compareOp .NotIn) gNotIn := .mk (op_notInU hu) fun d1 d2 d e R H v1 v2 S1 S2 Q dm r1 r2 q => by
  unfold gNotIn at e
  obtain ⟨b, e1, e2⟩ := Option.map_eq_some_iff.mp e
  subst e2
  exact rIn_of e1 r1 r2 (q _ H [] (Same.refl H) ⟨rfl, rfl⟩ List.nodup_nil (by simp))
/-! ### a < b < c -/
def bChain (g g' : D → D → Option D) (f1 f2 f3 : Fb) : Fb := fun s => (f1 s).bind fun d1 => (f2 s).bind fun d2 => (Rb.of (g d1 d2)).bind fun z => match z with
  | .bl true => (f3 s).bind fun d3 => Rb.of (g' d2 d3)
  | .bl false => .ok (.bl false)
  | _ => .stuck
theorem tChain_of {f f' : Value → Value → Sem Value} {g g' : D → D → Option D} (ho : OpV X f g) (ho' : OpV X f' g') : ∃ r r', OpR X f r ∧ OpR X f' r' ∧ ∀ {f1 f2 f3 : Fb} {σ : L2.St} {H : Hp} {Q : VK}, tF (ct X) W (bChain g g' f1 f2 f3) σ H Q → tChain r r' (tB (ct X) W f1) (tB (ct X) W f2) (tB (ct X) W f3) σ H Q := by
  obtain ⟨r, hr, hg⟩ := ho
  obtain ⟨r', hr', hg'⟩ := ho'
  refine ⟨r, r', hr, hr', fun {f1 f2 f3 σ H Q} h => ?_⟩
  obtain ⟨s, R, S, rel, p⟩ := h
  refine tB_seq rel p (fun c h => h) (fun h => h) fun d1 v1 H1 T1 e1 p1 k1 r1 => ?_
  refine tB_seq (rel.same k1) (PostF.later k1 p1) (fun c h => h) (fun h => h) fun d2 v2 H2 T2 e2 p2 k2 r2 => ?_
  have r1' := r1.same (rel.same k1).dom k2
  cases e : g d1 d2 with
  | none => rw [e] at p2; exact p2.elim
  | some z =>
    rw [e] at p2
    refine hg d1 d2 z e R H2 v1 v2 T1 T2 _ (rel.same (k1.trans k2)).dom r1' r2 fun v H3 T3 k3 r3 _ _ => ?_
    have p3 := PostF.later (k2.trans k3) p2
    cases z with
    | bl b =>
      refine ⟨b, r3.1, ?_⟩
      cases b with
      | true =>
        rw [if_pos rfl]
        have rel3 := rel.same (k1.trans (k2.trans k3))
        refine tB_seq rel3 p3 (fun c h => h) (fun h => h) fun d3 v3 H4 T4 e4 p4 k4 r4 => ?_
        cases e' : g' d2 d3 with
        | none => rw [e'] at p4; exact p4.elim
        | some d =>
          rw [e'] at p4
          exact hg' d2 d3 d e' R H4 v2 v3 T2 T4 Q (rel3.same k4).dom (r2.same (rel.same (k1.trans k2)).dom (k3.trans k4)) r4 (PostF.later (r := .ok d) k4 p4)
      | false =>
        rw [if_neg Bool.false_ne_true]
        exact p3 _ H3 [] (Same.refl H3) ⟨rfl, rfl⟩ List.nodup_nil (by simp)
    | non => exact p3.elim
    | int _ => exact p3.elim
    | str _ => exact p3.elim
    | nd _ _ _ => exact p3.elim
theorem pf_chain {op op' : CmpOp} {g g' : D → D → Option D} {a b c : Expr} {f1 f2 f3 : Fb} (ho : OpV X (compareOp op) g) (ho' : OpV X (compareOp op') g') (ha : PB X W a f1) (hb : PB X W b f2) (hc : PB X W c f3)
    (hm : lastMarks [op, op'] [b, c] = false := by with_unfolding_all rfl) : PF X W (.Compare a [op, op'] [b, c] pos) (bChain g g' f1 f2 f3) := by
  obtain ⟨r, r', hr, hr', hi⟩ := tChain_of (W := W) ho ho'
  exact pe_imp (pe_chain hr hr' ha hb hc hm) fun σ H Q h => hi h
theorem pt_chainV {op op' : CmpOp} {g g' : D → D → Option D} {a b c : Expr} {f1 f2 f3 : Fb} (ho : OpV X (compareOp op) g) (ho' : OpV X (compareOp op') g') (ha : PB X W a f1) (hb : PB X W b f2) (hc : PB X W c f3)
    (hm : lastMarks [op, op'] [b, c] = false := by with_unfolding_all rfl) : PTb X W (.Compare a [op, op'] [b, c] pos) (tsB (bChain g g' f1 f2 f3)) := by
  obtain ⟨r, r', hr, hr', hi⟩ := tChain_of (W := W) ho ho'
  exact pt_imp (pt_chain hr hr' ha hb hc hm) fun σ H Q h => hi (tF_test h)
/-! ### tests -/
abbrev Ft := Slots → Rb Bool
abbrev PWb (X : Cx) (W : Wi) (e : Expr) (f : Ft) : Prop := PW X e (tT (ct X) W f)
def fAnd (f g : Ft) : Ft := fun s => (f s).bind fun b => if b = true then g s else .ok false
def fOr (f g : Ft) : Ft := fun s => (f s).bind fun b => if b = true then .ok true else g s
def fNot (f : Ft) : Ft := fun s => (f s).bind fun b => .ok (!b)
section
variable {a b : Expr} {rest : List Expr} {f g : Ft}
theorem pwb_and1 (ha : PTb X W a f) : PWb X W (.BoolOp .And [a] pos) f := pw_and1 ha
theorem pwb_or1 (ha : PTb X W a f) : PWb X W (.BoolOp .Or [a] pos) f := pw_or1 ha
theorem pwb_and (ha : PTb X W a f) (hb : PWb X W (.BoolOp .And (b :: rest) pos) g) : PWb X W (.BoolOp .And (a :: b :: rest) pos) (fAnd f g) := pw_imp (pw_and ha hb) fun σ H Q h => by
  obtain ⟨s, R, S, rel, p⟩ := h
  refine tT_seq rel p (fun c h => h) (fun h => h) fun c H1 e p k => ?_
  cases c with
  | true =>
    rw [if_pos rfl] at p ⊢
    exact ⟨s, R, S, rel.same k, PostT.later k p⟩
  | false =>
    rw [if_neg Bool.false_ne_true] at p ⊢
    exact p H1 k
theorem pwb_or (ha : PTb X W a f) (hb : PWb X W (.BoolOp .Or (b :: rest) pos) g) : PWb X W (.BoolOp .Or (a :: b :: rest) pos) (fOr f g) := pw_imp (pw_or ha hb) fun σ H Q h => by
  obtain ⟨s, R, S, rel, p⟩ := h
  refine tT_seq rel p (fun c h => h) (fun h => h) fun c H1 e p k => ?_
  cases c with
  | false =>
    rw [if_neg Bool.false_ne_true] at p ⊢
    exact ⟨s, R, S, rel.same k, PostT.later k p⟩
  | true =>
    rw [if_pos rfl] at p ⊢
    exact p H1 k
theorem ptb_w (h : PWb X W a f) : PTb X W a f := h.pt
theorem ptb_not (ha : PTb X W a f) : PTb X W (.UnaryOp .Not a pos) (fNot f) := pt_imp (pt_not ha) fun σ H Q h => by
  obtain ⟨s, R, S, rel, p⟩ := h
  exact tT_seq rel p (fun c h => h) (fun h => h) fun c H1 e p k => p H1 k
/-- a value's truth -/
def truD : D → Option Bool
  | .non => some false
  | .bl b => some b
  | .int i => some (i != 0)
  | .str y => if y.length ≤ sizeLine then some ((y.length : Int) != 0) else none
  | .nd .lst _ ds => some (!ds.isEmpty)
  | .nd .tup _ ds => some (!ds.isEmpty)
  | _ => none
def tsTru (f : Fb) : Ft := fun s => (f s).bind fun d => Rb.of (truD d)
theorem isEmpty_len {α β : Type} {xs : List α} {ys : List β} (h : xs.length = ys.length) : xs.isEmpty = ys.isEmpty := by
  cases xs with
  | nil => cases ys with
    | nil => rfl
    | cons _ _ => cases h
  | cons _ _ => cases ys with
    | nil => cases h
    | cons _ _ => rfl
theorem Rp.tru {C : Ct} {R : Addr → Prop} {H : Hp} {d : D} {v : V} {S : List Addr} {b : Bool} (h : Rp C R H d v S) (e : truD d = some b) : TruV C.K v H b := by
  cases d with
  | non => cases e; rw [h.1]; rfl
  | bl b => cases e; rw [h.1]; rfl
  | int i => cases e; rw [h.1]; rfl
  | str y =>
    have e : (if y.length ≤ sizeLine then some ((y.length : Int) != 0) else none) = some b := e
    split at e
    · rename_i hz
      cases e; rw [h.1]; exact ⟨hz, rfl⟩
    · cases e
  | nd k m ds =>
    cases k with
    | tup =>
      cases e
      obtain ⟨a, vs, rfl, sa, ra⟩ := rp_tup h
      exact .inr (.inl ⟨vs, sa, by rw [isEmpty_len ra.length]⟩)
    | lst =>
      cases e
      obtain ⟨a, vs, S', rfl, sa, ra⟩ := rp_lst h
      exact .inl ⟨vs, sa, by rw [isEmpty_len ra.length]⟩
    | dct ks => cases e
    | ins c fs => cases e
theorem ptb_tru {f : Fb} (ha : PB X W a f) (he : ∀ whole, isTrue a X.env whole = (do let v ← whole; standAt a.pos; holding [v] (truthy v)) := by intro _; rfl) : PTb X W a (tsTru f) := pt_imp (pt_truth ha he) fun σ H Q h => by
  obtain ⟨s, R, S, rel, p⟩ := h
  refine tB_seq (P := PostT (ct X) W σ H Q) rel p (fun c h => h) (fun h => h) fun d v H1 T e p k r => ?_
  cases z : truD d with
  | none => rw [z] at p; exact p.elim
  | some c => rw [z] at p; exact ⟨c, r.tru z, p H1 k⟩
/-! ### and, or, not as values (truths) -/
def bAnd (f g : Fb) : Fb := fun s => (f s).bind fun d => match d with
  | .bl true => g s
  | .bl false => .ok (.bl false)
  | _ => .stuck
def bOr (f g : Fb) : Fb := fun s => (f s).bind fun d => match d with
  | .bl false => g s
  | .bl true => .ok (.bl true)
  | _ => .stuck
def bNot (f : Fb) : Fb := fun s => (f s).bind fun d => match d with
  | .bl b => .ok (.bl (!b))
  | _ => .stuck
theorem pb_one {op} {f : Fb} (h : PB X W a f) : PB X W (.BoolOp op [a] pos) f := pe_one h
theorem pb_and {f g : Fb} (ha : PB X W a f) (hb : PB X W (.BoolOp .And (b :: rest) pos) g) : PB X W (.BoolOp .And (a :: b :: rest) pos) (bAnd f g) := pe_imp (pe_and ha hb) fun σ H Q h => by
  obtain ⟨s, R, S, rel, p⟩ := h
  refine tB_seq rel p (fun c h => h) (fun h => h) fun d v H1 T e p k r => ?_
  cases d with
  | bl c =>
    refine ⟨c, r.1, ?_⟩
    cases c with
    | true => rw [if_pos rfl]; exact ⟨s, R, S, rel.same k, PostB.later k p⟩
    | false => rw [if_neg Bool.false_ne_true]; exact p _ H1 [] k ⟨rfl, rfl⟩
  | non => exact p.elim
  | int _ => exact p.elim
  | str _ => exact p.elim
  | nd _ _ _ => exact p.elim
theorem pb_or {f g : Fb} (ha : PB X W a f) (hb : PB X W (.BoolOp .Or (b :: rest) pos) g) : PB X W (.BoolOp .Or (a :: b :: rest) pos) (bOr f g) := pe_imp (pe_or ha hb) fun σ H Q h => by
  obtain ⟨s, R, S, rel, p⟩ := h
  refine tB_seq rel p (fun c h => h) (fun h => h) fun d v H1 T e p k r => ?_
  cases d with
  | bl c =>
    refine ⟨c, r.1, ?_⟩
    cases c with
    | false => rw [if_neg Bool.false_ne_true]; exact ⟨s, R, S, rel.same k, PostB.later k p⟩
    | true => rw [if_pos rfl]; exact p _ H1 [] k ⟨rfl, rfl⟩
  | non => exact p.elim
  | int _ => exact p.elim
  | str _ => exact p.elim
  | nd _ _ _ => exact p.elim
theorem pb_not {f : Fb} (ha : PB X W a f) : PB X W (.UnaryOp .Not a pos) (bNot f) := pe_imp (pe_not ha) fun σ H Q h => by
  obtain ⟨s, R, S, rel, p⟩ := h
  refine tB_seq rel p (fun c h => h) (fun h => h) fun d v H1 T e p k r => ?_
  cases d with
  | bl c => exact ⟨c, r.1, p _ H1 [] k ⟨rfl, rfl⟩⟩
  | non => exact p.elim
  | int _ => exact p.elim
  | str _ => exact p.elim
  | nd _ _ _ => exact p.elim
end
end
end VL
/-! # VL6: statements, defs -/
namespace VL
open PySem PySem.Spec PyProof.Rows L2
/-! ### slots taken, put -/
section
variable {C : Ct} {W : Wi} {R R' : Addr → Prop} {H H' : Hp}
theorem RpS.take : ∀ {s : Slots} {σ : L2.St} {S : List Addr} {i : Nat} {d : D}, RpS C R H s σ S → s[i]? = some (some d) → ∃ v S1 S2, σ[i]? = some (some v) ∧ Rp C R H d v S1 ∧ RpS C R H (s.set i none) σ S2 ∧ S.Perm (S1 ++ S2)
  | [], _, _, _, _, h, e => by simp at e
  | o :: s, _, _, 0, d, h, e => by
    obtain ⟨x, σ', S1, S2, e1, e2, h1, h2⟩ := h
    simp at e
    subst e
    obtain ⟨v, ev, r⟩ := h1
    refine ⟨v, S1, S2, by rw [e1, ev]; rfl, r, ⟨x, σ', [], S2, e1, rfl, rfl, h2⟩, by rw [e2]⟩
  | o :: s, _, _, i + 1, d, h, e => by
    obtain ⟨x, σ', S1, S2, e1, e2, h1, h2⟩ := h
    obtain ⟨v, T1, T2, q1, q2, q3, q4⟩ := RpS.take (i := i) h2 (by simpa using e)
    refine ⟨v, T1, S1 ++ T2, by rw [e1]; simpa using q1, q2, ⟨x, σ', S1, T2, e1, rfl, h1, q3⟩, ?_⟩
    rw [e2]
    refine (List.Perm.append_left S1 q4).trans ?_
    rw [← List.append_assoc, ← List.append_assoc]
    exact List.Perm.append_right T2 List.perm_append_comm
/-- a slot is written: what it held falls away -/
theorem RpS.put : ∀ {s : Slots} {σ : L2.St} {S T : List Addr} {i : Nat} {o : Option D} {x : Option V}, RpS C R H s σ S → RpO C R H o x T → ∃ S' L, RpS C R H (s.set i o) (σ.set i x) S' ∧ (S'.Perm (L ++ T) ∨ (S' = L)) ∧ L.Sublist S
  | [], _, S, T, i, o, x, h, r => ⟨S, S, by obtain ⟨e1, e2⟩ := h; rw [e1]; exact ⟨rfl, e2⟩, .inr rfl, List.Sublist.refl _⟩
  | p :: s, _, _, T, 0, o, x, h, r => by
    obtain ⟨y, σ', S1, S2, e1, e2, h1, h2⟩ := h
    refine ⟨T ++ S2, S2, ⟨x, σ', T, S2, by rw [e1]; rfl, rfl, r, h2⟩, .inl List.perm_append_comm, by rw [e2]; exact List.sublist_append_right _ _⟩
  | p :: s, _, _, T, i + 1, o, x, h, r => by
    obtain ⟨y, σ', S1, S2, e1, e2, h1, h2⟩ := h
    obtain ⟨S', L, q1, q2, q3⟩ := RpS.put (i := i) h2 r
    refine ⟨S1 ++ S', S1 ++ L, ⟨y, σ'.set i x, S1, S', by rw [e1]; rfl, rfl, h1, q1⟩, ?_, by rw [e2]; exact List.Sublist.append (List.Sublist.refl _) q3⟩
    rcases q2 with q2 | q2
    · refine .inl ?_
      rw [List.append_assoc]
      exact List.Perm.append_left S1 q2
    · exact .inr (by rw [q2])
/-- what stays true of the slots is kept where is are written -/
def Keeps (W : Wi) (is : List Nat) : Prop := ∀ σ σ' : L2.St, (∀ j, j ∉ is → σ'[j]? = σ[j]?) → W.me σ → W.me σ'
theorem Rel.put {s : Slots} {σ : L2.St} {S T : List Addr} {i : Nat} {d : D} {v : V} (hk : Keeps W [i]) (rel : Rel C W R H s σ S) (r : Rp C R H d v T) (n : T.Nodup) (f : ∀ a ∈ T, a ∉ S ∧ ¬ R a) : ∃ S', Rel C W R H (s.set i (some d)) (σ.set i (some v)) S' ∧ ∀ a ∈ S', a ∈ S ∨ a ∈ T := by
  obtain ⟨S', L, q1, q2, q3⟩ := rel.sl.put (i := i) (o := some d) (x := some v) ⟨v, rfl, r⟩
  have m : ∀ a ∈ S', a ∈ L ∨ a ∈ T := fun a ha => by
    rcases q2 with q2 | q2
    · exact List.mem_append.mp (q2.mem_iff.mp ha)
    · exact .inl (q2 ▸ ha)
  refine ⟨S', ⟨q1, ?_, fun a ha => ?_, rel.dom, hk _ _ (fun j hj => List.getElem?_set_ne fun e => hj (by simp [e])) rel.me⟩, fun a ha => (m a ha).imp (fun z => q3.subset z) id⟩
  · rcases q2 with q2 | q2
    · refine q2.nodup_iff.mpr (List.nodup_append.mpr ⟨rel.nd.sublist q3, n, fun a ha b hb e => ?_⟩)
      subst e
      exact (f a hb).1 (q3.subset ha)
    · rw [q2]; exact rel.nd.sublist q3
  · rcases m a ha with h | h
    · exact rel.off a (q3.subset h)
    · exact (f a h).2
theorem Rel.len {s : Slots} {σ : L2.St} {S : List Addr} (rel : Rel C W R H s σ S) : True := trivial
/-- an own value and the slots, all frozen into the region -/
theorem Rel.freeze {s : Slots} {σ : L2.St} {S : List Addr} {i : Nat} {d : D} (rel : Rel C W R H s σ S) (e : s[i]? = some (some d)) : ∃ v R' S', σ[i]? = some (some v) ∧ Rel C W R' H (s.set i (some (frz d))) σ S' ∧ Rp C R' H (frz d) v [] ∧ Fr R S H R' S' H := by
  obtain ⟨v, S1, S2, q1, q2, q3, q4⟩ := rel.sl.take e
  have nd := q4.nodup_iff.mp rel.nd
  have hR : ∀ a, R a → (R a ∨ a ∈ S1) ∧ H a = H a := fun a h => ⟨.inl h, rfl⟩
  have r' : Rp C (fun a => R a ∨ a ∈ S1) H (frz d) v [] := q2.frz (fun a h => .inl h) (fun a h => .inr h)
  obtain ⟨S3, L, p1, p2, p3⟩ := (q3.fm (R' := fun a => R a ∨ a ∈ S1) (H' := H) hR (fun _ _ h => h) (fun _ _ => rfl)).put (i := i) (o := some (frz d)) (x := some v) ⟨v, rfl, r'⟩
  have e1 : (s.set i none).set i (some (frz d)) = s.set i (some (frz d)) := List.set_set ..
  have e2 : σ.set i (some v) = σ := by
    have hlt : i < σ.length := (List.getElem?_eq_some_iff.mp q1).1
    have hv := (List.getElem?_eq_some_iff.mp q1).2
    rw [← hv]
    exact List.set_getElem_self hlt
  rw [e1, e2] at p1
  have m : ∀ a ∈ S3, a ∈ S2 := fun a ha => by
    rcases p2 with p2 | p2
    · rw [List.append_nil] at p2
      exact p3.subset (p2.mem_iff.mp ha)
    · exact p3.subset (p2 ▸ ha)
  have n3 : S3.Nodup := by
    have n2 := (List.nodup_append.mp nd).2.1.sublist p3
    rcases p2 with p2 | p2
    · rw [List.append_nil] at p2; exact p2.nodup_iff.mpr n2
    · rw [p2]; exact n2
  have mS : ∀ a ∈ S2, a ∈ S := fun a ha => q4.mem_iff.mpr (List.mem_append_right _ ha)
  have mS1 : ∀ a ∈ S1, a ∈ S := fun a ha => q4.mem_iff.mpr (List.mem_append_left _ ha)
  refine ⟨v, _, S3, q1, ⟨p1, n3, fun a ha hr => ?_, fun a h => ?_, rel.me⟩, r', ⟨fun _ _ _ => rfl, fun _ _ h => h, fun a h => .inl h, fun a h => ?_, fun a ha => .inl (mS a (m a ha)), fun _ h => h⟩⟩
  · rcases hr with hr | hr
    · exact rel.off a (mS a (m a ha)) hr
    · exact (List.nodup_append.mp nd).2.2 a hr a (m a ha) rfl
  · rcases h with h | h
    · exact rel.dom a h
    · exact (q2.owns a h).some
  · rcases h with h | h
    · exact .inl h
    · exact .inr (.inl (mS1 a h))
end
/-! ### values that may take from the slots -/
abbrev Fo := Slots → Ro
def oF (f : Fb) : Fo := fun s => match f s with
  | .ok d => .ok d s
  | .err c => .err c s
  | .stuck => .stuck
def oMove (i : Nat) : Fo := fun s => match s[i]? with
  | some (some d) => .ok d (s.set i none)
  | _ => .stuck
def oFrz (i : Nat) : Fo := fun s => match s[i]? with
  | some (some d) => .ok (frz d) (s.set i (some (frz d)))
  | _ => .stuck
section
variable {X : Cx} {W : Wi} {pos : Pos}
theorem po_f {e : Expr} {f : Fb} (h : PF X W e f) : PO X W e (oF f) := pe_imp h fun σ H Q q => by
  obtain ⟨s, R, S, rel, p⟩ := q
  refine ⟨s, R, S, rel, ?_⟩
  unfold oF at p
  cases e : f s with
  | ok d =>
    rw [e] at p
    intro v H' T k r n fr
    refine p v H' R S T (rel.same k) r n (fun a ha => ⟨fun z => (rel.sl.owns a z).some (fr a ha), fun z => rel.dom a z (fr a ha)⟩) (Fr.same k fun a ha => ?_)
    rcases List.mem_append.mp ha with ha | ha
    · exact .inl ha
    · exact .inr (fr a ha)
  | err c =>
    rw [e] at p
    intro H' cl k hc
    exact p H' R S cl (rel.same k) (Fr.same k fun a ha => .inl ha) hc
  | stuck => rw [e] at p; exact p
theorem po_move (i : Nat) {x : Str} {pos : Pos} (hN : X.N[i]? = some x := by rfl) (hv : Vis X.env.scope x := by first | exact Or.inl rfl | exact Or.inr (Or.inl rfl) | exact Or.inr (Or.inr rfl)) (hd : (x == ("__debug__" : Str)) = false := by decide)
    (hcd : (x == ("__classdict__" : Str)) = false := by decide) : PO X W (.Name x pos) (oMove i) := pe_imp (pe_var hN hv hd hcd) fun σ H Q h => by
  obtain ⟨s, R, S, rel, p⟩ := h
  unfold oMove at p
  cases e : s[i]? with
  | none => rw [e] at p; exact p.elim
  | some o =>
    cases o with
    | none => rw [e] at p; exact p.elim
    | some d =>
      rw [e] at p
      obtain ⟨v, S1, S2, q1, q2, q3, q4⟩ := rel.sl.take e
      have nd := q4.nodup_iff.mp rel.nd
      have na := List.nodup_append.mp nd
      refine ⟨v, q1, p v H R S2 S1 ⟨q3, na.2.1, fun a ha => rel.off a (q4.mem_iff.mpr (List.mem_append_right _ ha)), rel.dom, rel.me⟩ q2 na.1 (fun a ha => ⟨fun z => na.2.2 a ha a z rfl, rel.off a (q4.mem_iff.mpr (List.mem_append_left _ ha))⟩) (Fr.same (Same.refl H) fun a ha => .inl ?_)⟩
      exact (q4.trans List.perm_append_comm).mem_iff.mpr ha
theorem po_frz (i : Nat) {x : Str} {pos : Pos} (hN : X.N[i]? = some x := by rfl) (hv : Vis X.env.scope x := by first | exact Or.inl rfl | exact Or.inr (Or.inl rfl) | exact Or.inr (Or.inr rfl)) (hd : (x == ("__debug__" : Str)) = false := by decide)
    (hcd : (x == ("__classdict__" : Str)) = false := by decide) : PO X W (.Name x pos) (oFrz i) := pe_imp (pe_var hN hv hd hcd) fun σ H Q h => by
  obtain ⟨s, R, S, rel, p⟩ := h
  unfold oFrz at p
  cases e : s[i]? with
  | none => rw [e] at p; exact p.elim
  | some o =>
    cases o with
    | none => rw [e] at p; exact p.elim
    | some d =>
      rw [e] at p
      obtain ⟨v, R', S', q1, q2, q3, q4⟩ := rel.freeze e
      exact ⟨v, q1, p v H R' S' [] q2 q3 List.nodup_nil (by simp) (by rw [List.append_nil]; exact q4)⟩
/-! ### statements -/
abbrev Fs := Slots → Out
def sNext : Fs := fun s => .nx s
def sSeq (f g : Fs) : Fs := fun s => match f s with
  | .nx s' => g s'
  | o => o
theorem PostS.later {C : Ct} {R R1 : Addr → Prop} {S S1 : List Addr} {H H1 : Hp} {Dn : Ends} {o : Out} (fr : Fr R S H R1 S1 H1) (h : PostS C W R S H Dn o) : PostS C W R1 S1 H1 Dn o := by
  cases o with
  | nx s => exact fun σ' H' R' S' r f => h σ' H' R' S' r (fr.trans f)
  | ret d s => exact fun v σ' H' R' S' T r q n f g => h v σ' H' R' S' T r q n f (fr.trans g)
  | brk s => exact fun σ' H' R' S' r f => h σ' H' R' S' r (fr.trans f)
  | ct s => exact fun σ' H' R' S' r f => h σ' H' R' S' r (fr.trans f)
  | err c s => exact fun σ' H' R' S' cl r f e => h σ' H' R' S' cl r (fr.trans f) e
  | stuck => exact h
theorem pssd_nil : PSsd X W [] sNext := pss_imp pss_nil fun D σ H h => by
  obtain ⟨s, R, S, rel, p⟩ := h
  exact p σ H R S rel Fr.refl
theorem pssd_cons {st : Stmt} {rest : List Stmt} {f g : Fs} (h1 : PSd X W st f) (h2 : PSsd X W rest g) : PSsd X W (st :: rest) (sSeq f g) := pss_imp (pss_cons h1 h2) fun D σ H h => by
  obtain ⟨s, R, S, rel, p⟩ := h
  refine ⟨s, R, S, rel, ?_⟩
  unfold sSeq at p
  cases e : f s with
  | nx s' => rw [e] at p; exact fun σ' H' R' S' r fr => ⟨s', R', S', r, PostS.later fr p⟩
  | ret d s' => rw [e] at p; exact p
  | brk s' => rw [e] at p; exact p
  | ct s' => rw [e] at p; exact p
  | err c s' => rw [e] at p; exact p
  | stuck => rw [e] at p; exact p
theorem pssd_one {st : Stmt} {f : Fs} (h1 : PSd X W st f) : PSsd X W [st] f := pss_imp (pss_one h1) fun D σ H h => h
theorem psd_pass : PSd X W (.Pass pos) sNext := ps_imp ps_pass fun D σ H h => by
  obtain ⟨s, R, S, rel, p⟩ := h
  exact p σ H R S rel Fr.refl
def sCont : Fs := fun s => .ct s
def sBrk : Fs := fun s => .brk s
theorem psd_cont : PSd X W (.Continue pos) sCont := ps_imp ps_continue fun D σ H h => by
  obtain ⟨s, R, S, rel, p⟩ := h
  exact p σ H R S rel Fr.refl
theorem psd_brk : PSd X W (.Break pos) sBrk := ps_imp ps_break fun D σ H h => by
  obtain ⟨s, R, S, rel, p⟩ := h
  exact p σ H R S rel Fr.refl
/-- a value, then what is done with it -/
def sO (f : Fo) (k : D → Slots → Out) : Fs := fun s => match f s with
  | .ok d s' => k d s'
  | .err c s' => .err c s'
  | .stuck => .stuck
theorem tO_seq {σ : L2.St} {H : Hp} {Dn : Ends} {f : Fo} {k : D → Slots → Out} {Q : VK} (h : tSt (ct X) W (sO f k) Dn σ H)
    (ok : ∀ d s' v R S H0 H' R' S' T, PostS (ct X) W R S H0 Dn (k d s') → Rel (ct X) W R' H' s' σ S' → Rp (ct X) R' H' d v T → T.Nodup → (∀ a ∈ T, a ∉ S' ∧ ¬ R' a) → Fr R S H0 R' (S' ++ T) H' → Q v H') : tO (ct X) W f σ H Q := by
  obtain ⟨s, R, S, rel, p⟩ := h
  refine ⟨s, R, S, rel, ?_⟩
  unfold sO at p
  cases e : f s with
  | ok d s' => rw [e] at p; exact fun v H' R' S' T r q n g fr => ok d s' v R S H H' R' S' T p r q n g fr
  | err c s' => rw [e] at p; exact fun H' R' S' cl r fr hc => p σ H' R' S' cl r fr hc
  | stuck => rw [e] at p; exact p
def sRet (f : Fo) : Fs := sO f fun d s => .ret d s
theorem psd_ret {e : Expr} {f : Fo} (he : PO X W e f) : PSd X W (.Return (some e) pos) (sRet f) := ps_imp (ps_ret he) fun D σ H h =>
  tO_seq h fun d s' v R S H0 H' R' S' T p r q n g fr => p v σ H' R' S' T r q n g fr
def sRetN : Fs := fun s => .ret .non s
theorem psd_retN : PSd X W (.Return none pos) sRetN := ps_imp ps_retN fun D σ H h => by
  obtain ⟨s, R, S, rel, p⟩ := h
  exact p .non σ H R S [] rel ⟨rfl, rfl⟩ List.nodup_nil (by simp) (by rw [List.append_nil]; exact Fr.refl)
def sExpr (f : Fo) : Fs := sO f fun _ s => .nx s
theorem psd_expr {e : Expr} {f : Fo} (he : PO X W e f) (hs : swapsWith e none pos.line X.env = pure false := by rfl) : PSd X W (.Expr e pos) (sExpr f) := ps_imp (ps_expr he hs) fun D σ H h =>
  tO_seq h fun d s' v R S H0 H' R' S' T p r q n g fr => p σ H' R' S' r ⟨fr.out, fr.tup, fr.rr, fr.rn, fun a ha => fr.sn a (List.mem_append_left _ ha), fr.dm⟩
def sSet (i : Nat) (f : Fo) : Fs := sO f fun d s => .nx (s.set i (some d))
theorem psd_set {i : Nat} {x : Str} {e : Expr} {f : Fo} {pos' : Pos} (hk : Keeps W [i]) (hN : X.N.Nodup) (hi : X.N[i]? = some x) (hx : Loc X.env.scope x) (he : PO X W e f) (hs : swapsWith e (some (.Name x pos')) pos.line X.env = pure false := by rfl)
    (hf : X.fn x = true ∨ X.env.scope.names.lookup x = some .local := by first | exact .inl rfl | exact .inr rfl | assumption) : PSd X W (.Assign [.Name x pos'] e pos) (sSet i f) := ps_imp (ps_set hN hi hx he hs hf) fun D σ H h =>
  tO_seq h fun d s' v R S H0 H' R' S' T p r q n g fr => by
    obtain ⟨S2, rel2, m⟩ := r.put (i := i) hk q n g
    exact p _ H' R' S2 rel2 ⟨fr.out, fr.tup, fr.rr, fr.rn, fun a ha => fr.sn a (List.mem_append.mpr (m a ha)), fr.dm⟩
def sIf (c : Ft) (f g : Fs) : Fs := fun s => match c s with
  | .ok b => if b = true then f s else g s
  | .err e => .err e s
  | .stuck => .stuck
theorem psd_if {c : Expr} {a b : List Stmt} {fc : Ft} {f g : Fs} (hc : PTb X W c fc) (ha : PSsd X W a f) (hb : PSsd X W b g) : PSd X W (.If c a b pos) (sIf fc f g) := ps_imp (ps_if hc ha hb) fun D σ H h => by
  obtain ⟨s, R, S, rel, p⟩ := h
  refine ⟨s, R, S, rel, ?_⟩
  unfold sIf at p
  cases e : fc s with
  | ok d =>
    rw [e] at p
    intro H' k
    have fr : Fr R S H R S H' := Fr.same k fun a ha => .inl ha
    cases d with
    | true => rw [if_pos rfl]; exact ⟨s, R, S, rel.same k, PostS.later fr (by simpa using p)⟩
    | false => rw [if_neg Bool.false_ne_true]; exact ⟨s, R, S, rel.same k, PostS.later fr (by simpa using p)⟩
  | err c => rw [e] at p; exact fun H' cl k hc => p σ H' R S cl (rel.same k) (Fr.same k fun a ha => .inl ha) hc
  | stuck => rw [e] at p; exact p.elim
/-! ### targets -/
abbrev Fg := D → Slots → Option Slots
/-- the slots that are not written stay -/
def OffAt (is : List Nat) (σ σ' : L2.St) : Prop := (∀ j, j ∉ is → σ'[j]? = σ[j]?) ∧ σ'.length = σ.length
theorem OffAt.refl {is : List Nat} {σ : L2.St} : OffAt is σ σ := ⟨fun _ _ => rfl, rfl⟩
theorem OffAt.trans {is js : List Nat} {σ σ1 σ2 : L2.St} (a : OffAt is σ σ1) (b : OffAt js σ1 σ2) : OffAt (is ++ js) σ σ2 :=
  ⟨fun j hj => by rw [b.1 j (fun z => hj (List.mem_append_right _ z)), a.1 j (fun z => hj (List.mem_append_left _ z))], by rw [b.2, a.2]⟩
theorem OffAt.set {i : Nat} {σ : L2.St} {x : Option V} : OffAt [i] σ (σ.set i x) := ⟨fun j hj => by
  rw [List.getElem?_set_ne]
  intro e
  exact hj (by simp [e]), List.length_set⟩
/-- what a target's reading t does: g on the slots, those at is written -/
def TgS (C : Ct) (is : List Nat) (g : Fg) (t : TG) : Prop := ∀ W, Keeps W is → ∀ d s s', g d s = some s' → ∀ R H σ S v T (Q : L2.St → Hp → Prop), Rel C W R H s σ S → Rp C R H d v T → T.Nodup → (∀ a ∈ T, a ∉ S ∧ ¬ R a) →
  (∀ σ' S', Rel C W R H s' σ' S' → (∀ a ∈ S', a ∈ S ∨ a ∈ T) → OffAt is σ σ' → Q σ' H) → t v σ H Q
def TgsS (C : Ct) (is : List Nat) (g : List D → Slots → Option Slots) (t : TGs) : Prop := ∀ W, Keeps W is → ∀ ds s s', g ds s = some s' → ∀ R H σ S vs T (Q : L2.St → Hp → Prop), Rel C W R H s σ S → RpL C R H ds vs T → T.Nodup → (∀ a ∈ T, a ∉ S ∧ ¬ R a) →
  (∀ σ' S', Rel C W R H s' σ' S' → (∀ a ∈ S', a ∈ S ∨ a ∈ T) → OffAt is σ σ' → Q σ' H) → t vs σ H Q
structure PGd (X : Cx) (tg : Expr) (is : List Nat) (g : Fg) (t : TG) : Prop where
  pg : PG X tg t
  sem : TgS (ct X) is g t
structure PGsd (X : Cx) (ts : List Expr) (is : List Nat) (g : List D → Slots → Option Slots) (t : TGs) : Prop where
  pg : PGs X ts t
  sem : TgsS (ct X) is g t
def gtName (i : Nat) : Fg := fun d s => some (s.set i (some d))
def gtNil : List D → Slots → Option Slots
  | [], s => some s
  | _ :: _, _ => none
def gtCons (g : Fg) (h : List D → Slots → Option Slots) : List D → Slots → Option Slots
  | [], _ => none
  | d :: ds, s => (g d s).bind (h ds)
def gtTup (n : Nat) (g : List D → Slots → Option Slots) : Fg := fun d s => match d with
  | .nd .tup _ ds => if ds.length = n then g ds s else none
  | _ => none
theorem pgd_name {i : Nat} {x : Str} (hN : X.N.Nodup) (hi : X.N[i]? = some x) (hx : Loc X.env.scope x) (hf : X.fn x = true ∨ X.env.scope.names.lookup x = some .local := by first | exact .inl rfl | exact .inr rfl | assumption) : PGd X (.Name x pos) [i] (gtName i) (gName i) :=
  ⟨pg_name hN hi hx hf, fun W hk d s s' e R H σ S v T Q rel r n f q => by
    cases e
    obtain ⟨S', rel', m⟩ := rel.put (i := i) hk r n f
    exact q _ S' rel' m OffAt.set⟩
theorem pgsd_nil : PGsd X [] [] gtNil gNil := ⟨pgs_nil, fun W hk ds s s' e R H σ S vs T Q rel r n f q => by
  cases ds with
  | nil =>
    cases e
    unfold RpL at r
    exact ⟨r.1, q σ S rel (fun a ha => .inl ha) OffAt.refl⟩
  | cons _ _ => cases e⟩
theorem pgsd_cons {e : Expr} {es : List Expr} {is js : List Nat} {g : Fg} {h : List D → Slots → Option Slots} {t : TG} {u : TGs} (h1 : PGd X e is g t) (h2 : PGsd X es js h u) (hs : (assignEach (e :: es) X.env).map (·.2) = assign e X.env :: (assignEach es X.env).map (·.2) := by rfl) : PGsd X (e :: es) (is ++ js) (gtCons g h) (gCons t u) := by
  obtain ⟨ht, hg⟩ := h1
  obtain ⟨hu, hh⟩ := h2
  refine ⟨pgs_cons ht hu hs, fun W hk ds s s' e R H σ S vs T Q rel r n f q => ?_⟩
  cases ds with
  | nil => cases e
  | cons d ds =>
    obtain ⟨s1, e1, e2⟩ := Option.bind_eq_some_iff.mp e
    unfold RpL at r
    obtain ⟨v, vs', S1, S2, z1, z2, r1, r2⟩ := r
    subst z2
    have na := List.nodup_append.mp n
    refine ⟨v, vs', z1, hg W (fun σ σ' h => hk σ σ' fun j hj => h j fun z => hj (List.mem_append_left _ z)) d s s1 e1 R H σ S v S1 _ rel r1 na.1 (fun a ha => f a (List.mem_append_left _ ha)) fun σ1 S3 rel1 m1 o1 => ?_⟩
    refine hh W (fun σ σ' h => hk σ σ' fun j hj => h j fun z => hj (List.mem_append_right _ z)) ds s1 s' e2 R H σ1 S3 vs' S2 Q rel1 r2 na.2.1 (fun a ha => ⟨fun z => ?_, (f a (List.mem_append_right _ ha)).2⟩) fun σ2 S4 rel2 m2 o2 => q σ2 S4 rel2 (fun a ha => ?_) (o1.trans o2)
    · rcases m1 a z with z | z
      · exact (f a (List.mem_append_right _ ha)).1 z
      · exact na.2.2 a z a ha rfl
    · rcases m2 a ha with z | z
      · exact (m1 a z).imp id fun z => List.mem_append_left _ z
      · exact .inr (List.mem_append_right _ z)
theorem pgd_tup {es : List Expr} {k : Nat} {n : Nat} {is : List Nat} {g : List D → Slots → Option Slots} {t : TGs} (hc : X.calm = true) (h : PGsd X es is g t) (hn : (assignEach es X.env).length = n := by rfl) (hst : (assignEach es X.env).findIdx? (·.1) = none := by rfl) : PGd X (.Tuple es k pos) is (gtTup n g) (gTup X.K n t) := by
  obtain ⟨ht, hg⟩ := h
  refine ⟨pg_tup hc ht hn hst, fun W hk d s s' e R H σ S v T Q rel r nd f q => ?_⟩
  unfold gtTup at e
  split at e
  · rename_i m ds
    split at e
    · rename_i hl
      obtain ⟨a, vs, rfl, sa, ra⟩ := rp_tup r
      exact ⟨a, vs, rfl, sa, by rw [← ra.length]; exact hl, hg W hk ds s s' e R H σ S vs T Q rel ra nd f q⟩
    · cases e
  · cases e
def sTgt (g : Fg) (f : Fo) : Fs := sO f fun d s => match g d s with
  | some s' => .nx s'
  | none => .stuck
theorem psd_asg {tg e : Expr} {f : Fo} {is : List Nat} {g : Fg} {t : TG} (hk : Keeps W is) (he : PO X W e f) (hg : PGd X tg is g t) (hs : swapsWithSole [tg] e pos.line X.env = pure false := by rfl) (hw : swappedStores [tg] e X.env = pure none := by rfl) (h1 : (assignEach [tg] X.env).map (·.2) = [assign tg X.env] := by rfl) : PSd X W (.Assign [tg] e pos) (sTgt g f) := by
  obtain ⟨ht, hh⟩ := hg
  refine ps_imp (ps_asg he ht hs hw h1) fun D σ H h => tO_seq h fun d s' v R S H0 H' R' S' T p r q n gg fr => ?_
  cases z : g d s' with
  | none => rw [z] at p; exact p.elim
  | some s2 =>
    rw [z] at p
    exact hh W hk d s' s2 z R' H' σ S' v T _ r q n gg fun σ2 S2 rel2 m _ => p σ2 H' R' S2 rel2 ⟨fr.out, fr.tup, fr.rr, fr.rn, fun a ha => fr.sn a (List.mem_append.mpr (m a ha)), fr.dm⟩
end
end VL
/-! # VL7: loops, comprehensions -/
namespace VL
open PySem PySem.Spec PyProof.Rows L2
/-! ### what a loop walks -/
def iterV (K : PySem.W.Frag) (x : V) (H : Hp) (R : It → Hp → Prop) : Prop :=
  (∃ a, x = .ref a ∧ (∃ xs, SqL K H a xs) ∧ R (Itl K a) H) ∨ (∃ a, x = .ref a ∧ (∃ xs, SqT K H a xs) ∧ R (Itt K a) H) ∨ ∃ z, x = .str z ∧ R (Its z) H
theorem pi_any {X : Cx} {tg l : Expr} {tl : TE} (hl : PE X l tl) : PI X tg l (fun σ H R => tl σ H fun x H1 => iterV X.K x H1 R) := by
  refine ⟨fun pins s σ H R I h => ?_⟩
  refine thn (hl.run pins s σ H _ I h) fun v s1 ⟨x, H1, I1, r1, q1⟩ => ?_
  rcases q1 with ⟨a, e, ⟨xs, hq⟩, q⟩ | ⟨a, e, ⟨xs, hq⟩, q⟩ | ⟨z, e, q⟩
  · subst e
    cases r1
    obtain ⟨its, rv, p, hz⟩ := I1.list hq
    refine wpAny_pyIter_list p.isList ?_
    refine ⟨s1.heap.objs.size, [s1.heap.objs.size], _, _, H1, rfl, I1.kept (t' := s1.toks) fun b o e => Heap.get?_push_of_some _ e, turn_list a _, ⟨_, Heap.get?_push_size _ rfl, rfl, rfl⟩, fun b hb => ?_, q⟩
    have e : b = s1.heap.objs.size := by simpa using hb
    subst e
    exact I1.fpOk (Nat.le_refl _) (I1.hok.fresh (Nat.le_refl _))
  · subst e
    cases r1
    obtain ⟨its, rv, p, hz⟩ := I1.tuple hq
    refine wpAny_pyIter_tuple (show s1.heap.IsTuple a its.toArray from p) ?_
    refine ⟨s1.heap.objs.size, [s1.heap.objs.size], _, _, H1, rfl, I1.kept (t' := s1.toks) fun b o e => Heap.get?_push_of_some _ e, turn_tuple a _, ⟨_, Heap.get?_push_size _ rfl, rfl, rfl⟩, fun b hb => ?_, q⟩
    have e : b = s1.heap.objs.size := by simpa using hb
    subst e
    exact I1.fpOk (Nat.le_refl _) (I1.hok.fresh (Nat.le_refl _))
  · subst e
    obtain ⟨t, rfl⟩ := r1
    cases ha : z.cps.all (· < 128)
    · exact wpAny_pyIter_wide ha (pi_one (tk := s1.toks) I1 _ (turn_str _ z t "str_iterator" (.inr rfl)) ⟨_, Heap.get?_push_size _ rfl, rfl, rfl⟩ q)
    · exact wpAny_pyIter_ascii ha (pi_one (tk := s1.toks) I1 _ (turn_str _ z t "str_ascii_iterator" (.inl rfl)) ⟨_, Heap.get?_push_size _ rfl, rfl, rfl⟩ q)
/-- J walks the items ds at the heap H: each is readable in the region -/
structure Walks (C : Ct) (R : Addr → Prop) (J : It) (ds : List D) (H : Hp) : Prop where
  go : ∀ i d, ds[i]? = some d → J.go i H ∧ ∀ x H', J.yld i H x H' → H' = H ∧ Rp C R H d x []
  stop : J.stop ds.length H
def itemsD : D → Option (List D)
  | .nd .lst _ ds => some ds
  | .nd .tup _ ds => some ds
  | .str z => some (z.cps.toList.map fun c => .str ⟨#[c]⟩)
  | _ => none
def itOf (K : PySem.W.Frag) : D → V → It
  | .nd .lst _ _, .ref a => Itl K a
  | .nd .tup _ _, .ref a => Itt K a
  | .str _, .str z => Its z
  | _, _ => Itr 0 0
theorem iter_of {C : Ct} {d : D} {ds : List D} {v : V} (e : itemsD d = some ds) : ∀ {R : Addr → Prop} {H : Hp} {S : List Addr} {Kn : It → Hp → Prop}, Rp C R H d v S → Kn (itOf C.K d v) H → iterV C.K v H Kn := by
  intro R H S Kn r k
  unfold itemsD at e
  split at e
  · obtain ⟨a, vs, S', rfl, sa, ra⟩ := rp_lst r
    exact .inl ⟨a, rfl, ⟨vs, sa⟩, k⟩
  · obtain ⟨a, vs, rfl, sa, ra⟩ := rp_tup r
    exact .inr (.inl ⟨a, rfl, ⟨vs, sa⟩, k⟩)
  · have hv := r.1
    subst hv
    exact .inr (.inr ⟨_, rfl, k⟩)
  · cases e
theorem walks_of {C : Ct} {d : D} {ds : List D} {v : V} {R : Addr → Prop} {H : Hp} {S : List Addr} (e : itemsD d = some ds) (q : shrL ds = true) (r : Rp C R H d v S) : Walks C R (itOf C.K d v) ds H := by
  unfold itemsD at e
  split at e
  · cases e
    obtain ⟨a, vs, S', rfl, sa, ra⟩ := rp_lst r
    have ra := ra.nilS q
    refine ⟨fun i d hi => ?_, vs, sa, by rw [ra.length]; exact Nat.le_refl _⟩
    obtain ⟨x, S1, hx, rx⟩ := ra.get hi
    refine ⟨⟨vs, x, sa, hx⟩, fun y H' hy => ⟨hy.1, ?_⟩⟩
    have := hy.2 vs sa
    rw [hx] at this
    cases this
    have := rx.shr (shrL_mem q d (List.mem_of_getElem? hi))
    rw [this] at rx
    exact rx
  · cases e
    obtain ⟨a, vs, rfl, sa, ra⟩ := rp_tup r
    have ra := ra.nilS q
    refine ⟨fun i d hi => ?_, vs, sa, by rw [ra.length]; exact Nat.le_refl _⟩
    obtain ⟨x, S1, hx, rx⟩ := ra.get hi
    refine ⟨⟨vs, x, sa, hx⟩, fun y H' hy => ⟨hy.1, ?_⟩⟩
    have := hy.2 vs sa
    rw [hx] at this
    cases this
    have := rx.shr (shrL_mem q d (List.mem_of_getElem? hi))
    rw [this] at rx
    exact rx
  · cases e
    have hv := r.1
    subst hv
    rename_i z
    refine ⟨fun i d hi => ?_, ?_⟩
    · rw [List.getElem?_map] at hi
      obtain ⟨c, hc, hd⟩ := Option.map_eq_some_iff.mp hi
      have hz : z.cps[i]? = some c := by simpa using hc
      refine ⟨(Array.getElem?_eq_some_iff.mp hz).1, fun y H' hy => ⟨hy.1, ?_⟩⟩
      obtain ⟨c', h1, h2⟩ := hy.2
      rw [hz] at h1
      cases h1
      subst hd
      exact ⟨h2, rfl⟩
    · show z.cps.size ≤ _
      rw [List.length_map, Array.length_toList]
      exact Nat.le_refl _
  · cases e
/-! ### for -/
def forL (g : Fg) (body : Fs) : List D → Fs
  | [], s => .nx s
  | d :: ds, s => match g d s with
    | none => .stuck
    | some s1 => match body s1 with
      | .nx s2 => forL g body ds s2
      | .ct s2 => forL g body ds s2
      | .brk s2 => .nx s2
      | .ret d s2 => .ret d s2
      | .err c s2 => .err c s2
      | .stuck => .stuck
section
variable {X : Cx} {W : Wi} {pos : Pos}
/-- the loop itself, from the state at its first turn -/
theorem for_core {C : Ct} {J : It} {ds : List D} {is : List Nat} {g : Fg} {t : TG} {body : Fs} {Dn : Ends} {σ : L2.St} {H : Hp} {s : Slots} {R : Addr → Prop} {S : List Addr} (hk : Keeps W is) (hg : TgS C is g t) (rel : Rel C W R H s σ S)
    (hw : ∀ R' S' H', Fr R S H R' S' H' → (∀ a, R a → H' a = H a) → Walks C R' J ds H') (p : PostS C W R S H Dn (forL g body ds s)) :
    ∃ I : Nat → Nat → L2.St → Hp → Prop, (∃ m, I 0 m σ H) ∧ ∀ i m σ H, I i m σ H → (J.stop i H ∧ Dn.nx σ H) ∨ (J.go i H ∧ ∃ N : L2.St → Hp → Prop, (∀ σ' H', N σ' H' → ∃ m', m' < m ∧ I (i + 1) m' σ' H') ∧
      ∀ x H', J.yld i H x H' → t x σ H' fun σ2 H2 => tSt C W body { Dn with nx := N, ct := N, bk := Dn.nx } σ2 H2) := by
  refine ⟨fun i m σ' H' => ∃ s' R' S', m = ds.length - i ∧ i ≤ ds.length ∧ Rel C W R' H' s' σ' S' ∧ Fr R S H R' S' H' ∧ PostS C W R' S' H' Dn (forL g body (ds.drop i) s'), ⟨ds.length, s, R, S, rfl, Nat.zero_le _, rel, Fr.refl, p⟩, ?_⟩
  rintro i m σ1 H1 ⟨s1, R1, S1, rfl, hi, rel1, fr1, p1⟩
  have rk : ∀ a, R a → H1 a = H a := fun a ha => fr1.out a (rel.dom a ha) fun z => rel.off a z ha
  have w := hw R1 S1 H1 fr1 rk
  by_cases hlt : i < ds.length
  · have hd : ds[i]? = some ds[i] := List.getElem?_eq_getElem hlt
    obtain ⟨w1, w2⟩ := w.go i ds[i] hd
    rw [List.drop_eq_getElem_cons hlt] at p1
    unfold forL at p1
    cases e : g ds[i] s1 with
    | none => rw [e] at p1; exact p1.elim
    | some s2 =>
      rw [e] at p1
      refine .inr ⟨w1, fun σ' H' => ∃ s' R' S', Rel C W R' H' s' σ' S' ∧ Fr R S H R' S' H' ∧ PostS C W R' S' H' Dn (forL g body (ds.drop (i + 1)) s'), fun σ' H' ⟨s', R', S', a, b, c⟩ => ⟨ds.length - (i + 1), by omega, s', R', S', rfl, hlt, a, b, c⟩, fun x H' hy => ?_⟩
      obtain ⟨e1, rx⟩ := w2 x H' hy
      subst e1
      refine hg W hk _ _ _ e R1 H' σ1 S1 x [] _ rel1 rx List.nodup_nil (by simp) fun σ2 S2 rel2 m2 _ => ⟨s2, R1, S2, rel2, ?_⟩
      have fr2 : Fr R1 S1 H' R1 S2 H' := ⟨fun _ _ _ => rfl, fun _ _ h => h, fun _ h => h, fun _ h => .inl h, fun a ha => (m2 a ha).elim .inl (fun z => by cases z), fun _ h => h⟩
      have p2 := PostS.later fr2 p1
      cases z : body s2 with
      | nx s3 =>
        simp only [z] at p2
        exact fun σ' H3 R3 S3 rel3 fr3 => ⟨s3, R3, S3, rel3, fr1.trans (fr2.trans fr3), PostS.later fr3 p2⟩
      | ct s3 =>
        simp only [z] at p2
        exact fun σ' H3 R3 S3 rel3 fr3 => ⟨s3, R3, S3, rel3, fr1.trans (fr2.trans fr3), PostS.later fr3 p2⟩
      | brk s3 => simp only [z] at p2; exact p2
      | ret d s3 => simp only [z] at p2; exact p2
      | err c s3 => simp only [z] at p2; exact p2
      | stuck => simp only [z] at p2; exact p2
  · have e : i = ds.length := by omega
    subst e
    rw [List.drop_length] at p1
    exact .inl ⟨w.stop, p1 σ1 H1 R1 S1 rel1 Fr.refl⟩
def sFor (f : Fo) (g : Fg) (body : Fs) : Fs := sO f fun d s => match itemsD (frz d) with
  | some ds => forL g body ds s
  | none => .stuck
theorem shrL_frzL : ∀ ds : List D, shrL (frzL ds) = true ∧ ∀ d ∈ ds, shr (frz d) = true := by
  have key : ∀ d : D, shr (frz d) = true := fun d => D.rec (motive_1 := fun d => shr (frz d) = true) (motive_2 := fun ds => shrL (frzL ds) = true) rfl (fun _ => rfl) (fun _ => rfl) (fun _ => rfl)
    (fun k m ds ih => by
      unfold frz
      cases k with
      | tup => unfold shr; exact ih
      | lst => unfold shr; simpa using ih
      | dct ks => unfold shr; simpa using ih
      | ins c fs => unfold shr; simpa using ih) rfl (fun d ds h1 h2 => by
      unfold frzL shrL
      rw [h1, h2]; rfl) d
  intro ds
  refine ⟨?_, fun d _ => key d⟩
  induction ds with
  | nil => rfl
  | cons d ds ih =>
    unfold frzL shrL
    rw [key d, ih]; rfl
theorem items_frz {d : D} {ds : List D} (e : itemsD (frz d) = some ds) : shrL ds = true := by
  cases d with
  | non => cases e
  | bl _ => cases e
  | int _ => cases e
  | str z =>
    cases e
    refine shrL_of fun d hd => ?_
    obtain ⟨c, _, rfl⟩ := List.mem_map.mp hd
    rfl
  | nd k m ds' =>
    cases k with
    | tup => cases e; exact (shrL_frzL ds').1
    | lst => cases e; exact (shrL_frzL ds').1
    | dct ks => cases e
    | ins c fs => cases e
theorem psd_for {tg iter : Expr} {body : List Stmt} {f : Fo} {is : List Nat} {g : Fg} {t : TG} {b : Fs} (hk : Keeps W is) (hp : PassesOwn (model X.prog X.w) X.A X.env X.xe) (hc : X.calm = true) (hi : PO X W iter f) (hg : PGd X tg is g t) (hb : PSsd X W body b)
    (hs : ∀ x, foldedSetIterable iter X.env x = pure x := by intro _; rfl) : PSd X W (.For tg iter body [] pos) (sFor f g b) := by
  refine ps_imp (ps_for hp hc (pi_any hi) hg.pg hb hs) fun D σ H h => ?_
  refine tO_seq h fun d s' v R S H0 H' R' S' T p rel r n dj fr => ?_
  cases e : itemsD (frz d) with
  | none => rw [e] at p; exact p.elim
  | some ds =>
    rw [e] at p
    -- the walked thing is frozen
    have rf : Rp (ct X) (fun a => R' a ∨ a ∈ T) H' (frz d) v [] := r.frz (fun a h => .inl h) (fun a h => .inr h)
    have relf : Rel (ct X) W (fun a => R' a ∨ a ∈ T) H' s' σ S' := ⟨rel.sl.fm (fun a h => ⟨.inl h, rfl⟩) (fun _ _ h => h) (fun _ _ => rfl), rel.nd, fun a ha h => h.elim (rel.off a ha) (fun z => (dj a z).1 ha), fun a h => h.elim (rel.dom a) (fun z => (r.owns a z).some), rel.me⟩
    have frf : Fr R S H0 (fun a => R' a ∨ a ∈ T) S' H' := ⟨fr.out, fr.tup, fun a h => .inl (fr.rr a h), fun a h => h.elim (fr.rn a) (fun z => .inr (fr.sn a (List.mem_append_right _ z))), fun a ha => fr.sn a (List.mem_append_left _ ha), fr.dm⟩
    refine iter_of e rf ?_
    refine for_core hk hg.sem relf (fun R2 S2 H2 fr2 k2 => ?_) (PostS.later frf p)
    exact walks_of e (items_frz e) (rf.fm (fun a h => ⟨fr2.rr a h, k2 a h⟩) fr2.tup (by simp))
/-- a range -/
def rgD (lo : Int) (n : Nat) : List D := (List.range n).map fun i => .int (lo + (i : Nat))
theorem rgD_get {lo : Int} {n i : Nat} {d : D} (h : (rgD lo n)[i]? = some d) : i < n ∧ d = .int (lo + (i : Nat)) := by
  unfold rgD at h
  rw [List.getElem?_map] at h
  obtain ⟨j, h1, h2⟩ := Option.map_eq_some_iff.mp h
  have h3 := List.getElem?_eq_some_iff.mp h1
  obtain ⟨h4, h5⟩ := h3
  rw [List.getElem_range] at h5
  rw [List.length_range] at h4
  subst h5
  exact ⟨h4, h2.symm⟩
theorem walks_rg {C : Ct} {R : Addr → Prop} {H : Hp} {lo : Int} {n : Nat} : Walks C R (Itr lo n) (rgD lo n) H := by
  refine ⟨fun i d hi => ?_, ?_⟩
  · obtain ⟨h1, h2⟩ := rgD_get hi
    refine ⟨h1, fun x H' hy => ⟨hy.1, ?_⟩⟩
    rw [h2, hy.2]
    exact ⟨rfl, rfl⟩
  · show n ≤ _
    unfold rgD
    rw [List.length_map, List.length_range]
    exact Nat.le_refl _
def rgB (i j : Int) : Bool := decide (-(2 ^ 62) ≤ i ∧ i < 2 ^ 62 ∧ -(2 ^ 62) ≤ j ∧ j < 2 ^ 62)
def sForR1 (f : Fb) (g : Fg) (body : Fs) : Fs := fun s => match f s with
  | .ok (.int j) => if rgB 0 j = true then forL g body (rgD 0 j.toNat) s else .stuck
  | .err c => .err c s
  | _ => .stuck
def sForR2 (f f' : Fb) (g : Fg) (body : Fs) : Fs := fun s => match f s with
  | .ok (.int i) => match f' s with
    | .ok (.int j) => if rgB i j = true then forL g body (rgD i (j - i).toNat) s else .stuck
    | .err c => .err c s
    | _ => .stuck
  | .err c => .err c s
  | _ => .stuck
theorem psd_forR1 {tg a : Expr} {body : List Stmt} {f : Fb} {is : List Nat} {g : Fg} {t : TG} {b : Fs} {p pos' : Pos} (hk : Keeps W is) (hp : PassesOwn (model X.prog X.w) X.A X.env X.xe) (hc : X.calm = true) (hgl : Gl X "range") (hm : X.mg "range" = none) (ha : PB X W a f) (hg : PGd X tg is g t) (hb : PSsd X W body b)
    (h0 : starEach [a] X.env = (false, eval a X.env) :: starEach [] X.env := by rfl) (h1 : starEach [a] X.env = [(false, eval a X.env)] := by rfl) (hs : ∀ x, foldedSetIterable (.Call (.Name "range" p) [a] [] pos') X.env x = pure x := by intro _; rfl) : PSd X W (.For tg (.Call (.Name "range" p) [a] [] pos') body [] pos) (sForR1 f g b) := by
  refine ps_imp (ps_for hp hc (pi_range1 hgl hm (pa_cons ha pa_nil h0) h1) hg.pg hb hs) fun D σ H h => ?_
  obtain ⟨s, R, S, rel, q⟩ := h
  refine ⟨s, R, S, rel, ?_⟩
  unfold sForR1 at q
  cases e : f s with
  | ok d =>
    simp only [e] at q
    intro v H' T k r
    cases d with
    | int j =>
      by_cases hb : rgB 0 j = true
      · simp only [hb] at q
        have hb' := of_decide_eq_true hb
        exact ⟨j, by rw [r.1], hb'.2.2.1, hb'.2.2.2, for_core hk hg.sem (rel.same k) (fun R' S' H' _ _ => walks_rg) (PostS.later (Fr.same k fun a ha => .inl ha) q)⟩
      · simp only [hb] at q; exact q.elim
    | non => exact q.elim
    | bl _ => exact q.elim
    | str _ => exact q.elim
    | nd _ _ _ => exact q.elim
  | err c => simp only [e] at q; exact fun H' cl k hc => q σ H' R S cl (rel.same k) (Fr.same k fun a ha => .inl ha) hc
  | stuck => simp only [e] at q; exact q
theorem psd_forR2 {tg a a' : Expr} {body : List Stmt} {f f' : Fb} {is : List Nat} {g : Fg} {t : TG} {b : Fs} {p pos' : Pos} (hk : Keeps W is) (hp : PassesOwn (model X.prog X.w) X.A X.env X.xe) (hc : X.calm = true) (hgl : Gl X "range") (hm : X.mg "range" = none) (ha : PB X W a f) (ha' : PB X W a' f') (hg : PGd X tg is g t) (hb : PSsd X W body b)
    (h0 : starEach [a, a'] X.env = (false, eval a X.env) :: starEach [a'] X.env := by rfl) (h0' : starEach [a'] X.env = (false, eval a' X.env) :: starEach [] X.env := by rfl)
    (h1 : starEach [a, a'] X.env = [(false, eval a X.env), (false, eval a' X.env)] := by rfl) (h2 : starEach [a'] X.env = [(false, eval a' X.env)] := by rfl) (hs : ∀ x, foldedSetIterable (.Call (.Name "range" p) [a, a'] [] pos') X.env x = pure x := by intro _; rfl) : PSd X W (.For tg (.Call (.Name "range" p) [a, a'] [] pos') body [] pos) (sForR2 f f' g b) := by
  refine ps_imp (ps_for hp hc (pi_range2 hgl hm (pa_cons ha (pa_cons ha' pa_nil h0') h0) h1 h2) hg.pg hb hs) fun D σ H h => ?_
  obtain ⟨s, R, S, rel, q⟩ := h
  refine ⟨s, R, S, rel, ?_⟩
  unfold sForR2 at q
  cases e : f s with
  | ok d =>
    simp only [e] at q
    intro v H' T k r
    cases d with
    | int i =>
      refine ⟨s, R, S, rel.same k, ?_⟩
      cases e' : f' s with
      | ok d' =>
        simp only [e'] at q
        intro v' H2 T' k' r'
        cases d' with
        | int j =>
          by_cases hb : rgB i j = true
          · simp only [hb] at q
            have hb' := of_decide_eq_true hb
            exact ⟨i, j, by rw [r.1, r'.1], hb', for_core hk hg.sem (rel.same (k.trans k')) (fun R' S' H' _ _ => walks_rg) (PostS.later (Fr.same (k.trans k') fun a ha => .inl ha) q)⟩
          · simp only [hb] at q; exact q.elim
        | non => exact q.elim
        | bl _ => exact q.elim
        | str _ => exact q.elim
        | nd _ _ _ => exact q.elim
      | err c => simp only [e'] at q; exact fun H' cl k' hc => q σ H' R S cl (rel.same (k.trans k')) (Fr.same (k.trans k') fun a ha => .inl ha) hc
      | stuck => simp only [e'] at q; exact q
    | non => exact q.elim
    | bl _ => exact q.elim
    | str _ => exact q.elim
    | nd _ _ _ => exact q.elim
  | err c => simp only [e] at q; exact fun H' cl k hc => q σ H' R S cl (rel.same k) (Fr.same k fun a ha => .inl ha) hc
  | stuck => simp only [e] at q; exact q
/-! ### while -/
def whileL (c : Ft) (body : Fs) : Nat → Fs
  | 0, _ => .stuck
  | n + 1, s => match c s with
    | .ok b => if b = true then (match body s with
      | .nx s2 => whileL c body n s2
      | .ct s2 => whileL c body n s2
      | .brk s2 => .nx s2
      | .ret d s2 => .ret d s2
      | .err c s2 => .err c s2
      | .stuck => .stuck) else .nx s
    | .err e => .err e s
    | .stuck => .stuck
theorem psd_while {c : Expr} {body : List Stmt} {fc : Ft} {b : Fs} (n : Nat) (hp : PassesOwn (model X.prog X.w) X.A X.env X.xe) (hc : PTb X W c fc) (hb : PSsd X W body b) : PSd X W (.While c body [] pos) (whileL fc b n) := by
  refine ps_imp (ps_while hp hc hb) fun D σ H h => ?_
  obtain ⟨s, R, S, rel, p⟩ := h
  refine ⟨fun m σ' H' => ∃ s' R' S', Rel (ct X) W R' H' s' σ' S' ∧ Fr R S H R' S' H' ∧ PostS (ct X) W R' S' H' D (whileL fc b m s'), ⟨n, s, R, S, rel, Fr.refl, p⟩, ?_⟩
  rintro m σ1 H1 ⟨s1, R1, S1, rel1, fr1, p1⟩
  refine ⟨s1, R1, S1, rel1, ?_⟩
  cases m with
  | zero => exact p1.elim
  | succ m =>
    unfold whileL at p1
    cases e : fc s1 with
    | ok d =>
      simp only [e] at p1
      intro H2 k
      have fr2 : Fr R1 S1 H1 R1 S1 H2 := Fr.same k fun a ha => .inl ha
      have p2 := PostS.later fr2 p1
      cases d with
      | false =>
        rw [if_neg Bool.false_ne_true]
        exact (by simpa using p2 : PostS (ct X) W R1 S1 H2 D (.nx s1)) σ1 H2 R1 S1 (rel1.same k) Fr.refl
      | true =>
        rw [if_pos rfl]
        simp only [if_true] at p2
        refine ⟨fun σ' H' => ∃ s' R' S', Rel (ct X) W R' H' s' σ' S' ∧ Fr R S H R' S' H' ∧ PostS (ct X) W R' S' H' D (whileL fc b m s'), fun σ' H' q => ⟨m, Nat.lt_succ_self m, q⟩, s1, R1, S1, rel1.same k, ?_⟩
        cases z : b s1 with
        | nx s3 => simp only [z] at p2; exact fun σ' H3 R3 S3 rel3 fr3 => ⟨s3, R3, S3, rel3, fr1.trans (fr2.trans fr3), PostS.later fr3 p2⟩
        | ct s3 => simp only [z] at p2; exact fun σ' H3 R3 S3 rel3 fr3 => ⟨s3, R3, S3, rel3, fr1.trans (fr2.trans fr3), PostS.later fr3 p2⟩
        | brk s3 => simp only [z] at p2; exact p2
        | ret d s3 => simp only [z] at p2; exact p2
        | err c s3 => simp only [z] at p2; exact p2
        | stuck => simp only [z] at p2; exact p2
    | err c => simp only [e] at p1; exact fun H' cl k hc => p1 σ1 H' R1 S1 cl (rel1.same k) (Fr.same k fun a ha => .inl ha) hc
    | stuck => simp only [e] at p1; exact p1
end
end VL
/-! # VL8: comprehensions, defs -/
namespace VL
open PySem PySem.Spec PyProof.Rows L2
def WF : Wi := ⟨fun _ _ _ _ => False, fun _ => True⟩
def wipeD (s : Slots) : List Nat → Slots
  | [] => s
  | v :: vs => (wipeD s vs).set v none
def noErr {α : Type} : Rb α → Rb α
  | .ok a => .ok a
  | _ => .stuck
def compL (g : Fg) (c : Ft) (el : Fb) (vs : List Nat) : List D → Slots → Rb (List D)
  | [], _ => .ok []
  | d :: ds, s => match g d (wipeD s vs) with
    | none => .stuck
    | some s1 => (noErr (c s1)).bind fun b => if b = true then (noErr (el s1)).bind fun y => (compL g c el vs ds s).bind fun r => .ok (y :: r) else compL g c el vs ds s
def bLc (f : Fb) (g : Fg) (c : Ft) (el : Fb) (vs : List Nat) : Fb := fun s => (f s).bind fun d => match itemsD d with
  | some ds => if shrL ds = true then (noErr (compL g c el vs ds s)).bind fun r => if r.length ≤ sizeLine then .ok (.lst true r) else .stuck else .stuck
  | none => .stuck
def cYes : Ft := fun _ => .ok true
section
variable {C : Ct} {W : Wi} {R : Addr → Prop} {H : Hp}
theorem Rel.wipe {σ : L2.St} : ∀ {s : Slots} {S : List Addr} (vs : List Nat), Rel C W R H s σ S → ∃ S', Rel C WF R H (wipeD s vs) (L2.wipe σ vs) S' ∧ ∀ a ∈ S', a ∈ S
  | s, S, [], rel => ⟨S, ⟨rel.sl, rel.nd, rel.off, rel.dom, True.intro⟩, fun _ h => h⟩
  | s, S, v :: vs, rel => by
    obtain ⟨S1, rel1, m1⟩ := Rel.wipe vs rel
    obtain ⟨S2, L, q1, q2, q3⟩ := rel1.sl.put (i := v) (o := none) (x := none) (T := []) rfl
    have e : S2.Perm L := by
      rcases q2 with q2 | q2
      · rw [List.append_nil] at q2; exact q2
      · rw [q2]
    have m2 : ∀ a ∈ S2, a ∈ S1 := fun a ha => q3.subset (e.mem_iff.mp ha)
    exact ⟨S2, ⟨q1, e.nodup_iff.mpr (rel1.nd.sublist q3), fun a ha => rel1.off a (m2 a ha), rel1.dom, True.intro⟩, fun a ha => m1 a (m2 a ha)⟩
theorem wipe_get (σ : L2.St) (j : Nat) : ∀ vs : List Nat, (L2.wipe σ vs)[j]? = if j ∈ vs then (if j < σ.length then some none else none) else σ[j]?
  | [] => by simp [L2.wipe]
  | v :: vs => by
    unfold L2.wipe
    by_cases h : v = j
    · subst h
      rw [List.getElem?_set]
      simp [L2.wipe_length]
    · rw [List.getElem?_set_ne h, wipe_get σ j vs]
      have : (j ∈ v :: vs) ↔ j ∈ vs := by simp [Ne.symm h]
      simp only [this]
theorem wipe_off {σ σ2 : L2.St} {vs : List Nat} (o : OffAt vs (L2.wipe σ vs) σ2) : L2.wipe σ2 vs = L2.wipe σ vs := by
  apply List.ext_getElem?
  intro j
  have hl : σ2.length = σ.length := by rw [o.2, L2.wipe_length]
  rw [wipe_get, wipe_get, hl]
  by_cases h : j ∈ vs
  · simp [h]
  · simp only [h, if_false]
    rw [o.1 j h, wipe_get]
    simp [h]
end
section
variable {X : Cx} {W : Wi} {pos : Pos}
theorem pts_imp {ifs : List Expr} {t t' : TT} (h : PTs X ifs t) (i : ∀ σ H Q, t' σ H Q → t σ H Q) : PTs X ifs t' := ⟨fun pins s σ H Q I q => h.run pins s σ H Q I (i σ H Q q)⟩
theorem ptsd_nil : PTs X [] (tT (ct X) W cYes) := pts_imp pts_nil fun σ H Q h => by
  obtain ⟨s, R, S, rel, p⟩ := h
  exact p H (Same.refl H)
theorem ptsd_one {c : Expr} {f : Ft} (h : PTb X W c f) : PTs X [c] (tT (ct X) W f) := pts_one h
/-- the list that was made -/
def finL (r : Rb (List D)) : Rb D := (noErr r).bind fun r => if r.length ≤ sizeLine then .ok (.lst true r) else .stuck
theorem lc_body {C : Ct} {J : It} {ds : List D} {is : List Nat} {g : Fg} {t : TG} {c : Ft} {el : Fb} {σ : L2.St} {H H1 : Hp} {Q : VK} {s : Slots} {R : Addr → Prop} {S : List Addr} (hg : TgS C is g t) (rel : Rel C W R H s σ S) (k : Same H H1)
    (hw : ∀ H2, Same H1 H2 → Walks C R J ds H2) (p : PostF C W R σ H Q (finL (compL g c el is ds s))) :
    ∀ Dd, H1 Dd = none → ∃ I : Nat → Nat → Hp → Prop, (∃ m, I 0 m (upd H1 Dd (.lst []))) ∧ ∀ i m H, I i m H →
      (J.stop i H ∧ Q (.ref Dd) H) ∨ (J.go i H ∧ ∃ Nx : Hp → Prop, (∀ H', Nx H' → ∃ m', m' < m ∧ I (i + 1) m' H') ∧ ∀ x H', J.yld i H x H' → t x (L2.wipe σ is) H' fun σ2 H2 => L2.wipe σ2 is = L2.wipe σ is ∧ tT C WF c σ2 H2 fun b H3 =>
        if b = true then tF C WF el σ2 H3 fun y H4 => ∃ acc, H4 Dd = some (.lst acc) ∧ acc.length < sizeLine ∧ Nx (upd H4 Dd (.lst (acc ++ [y]))) else Nx H3) := by
  intro Dd hD
  have rel1 := rel.same k
  unfold finL at p
  cases e2 : compL g c el is ds s with
  | err c => rw [e2] at p; exact p.elim
  | stuck => rw [e2] at p; exact p.elim
  | ok rr =>
    rw [e2] at p
    change PostF C W R σ H Q (if rr.length ≤ sizeLine then _ else _) at p
    by_cases hl : rr.length ≤ sizeLine
    · rw [if_pos hl] at p
      have nD : H Dd = none := k.free hD
      refine ⟨fun i m H' => ∃ acc vs' T' rest, m = ds.length - i ∧ i ≤ ds.length ∧ H' Dd = some (.lst vs') ∧ RpL C R H' acc vs' T' ∧ T'.Nodup ∧ (∀ a ∈ T', H a = none ∧ a ≠ Dd) ∧ Same H1 H' ∧ compL g c el is (ds.drop i) s = .ok rest ∧ acc ++ rest = rr,
        ⟨ds.length, [], [], [], rr, rfl, Nat.zero_le _, upd_same, RpL.nil, List.nodup_nil, by simp, same_upd' hD, e2, rfl⟩, ?_⟩
      rintro i m H2 ⟨acc, vs', T', rest, rfl, hi, hD2, racc, nT, fT, k2, ec, er⟩
      have rel2 := rel1.same k2
      have w := hw H2 k2
      by_cases hlt : i < ds.length
      · have hd : ds[i]? = some ds[i] := List.getElem?_eq_getElem hlt
        obtain ⟨w1, w2⟩ := w.go i ds[i] hd
        rw [List.drop_eq_getElem_cons hlt] at ec
        unfold compL at ec
        obtain ⟨Sw, relw, mw⟩ := rel2.wipe is
        cases e3 : g ds[i] (wipeD s is) with
        | none => rw [e3] at ec; cases ec
        | some s1 =>
          simp only [e3] at ec
          refine .inr ⟨w1, fun H' => ∃ acc vs' T' rest, H' Dd = some (.lst vs') ∧ RpL C R H' acc vs' T' ∧ T'.Nodup ∧ (∀ a ∈ T', H a = none ∧ a ≠ Dd) ∧ Same H1 H' ∧ compL g c el is (ds.drop (i + 1)) s = .ok rest ∧ acc ++ rest = rr,
            fun H' ⟨a, b, c', d', q⟩ => ⟨ds.length - (i + 1), by omega, a, b, c', d', rfl, hlt, q⟩, fun x H' hy => ?_⟩
          obtain ⟨e5, rx⟩ := w2 x H' hy
          subst e5
          refine hg WF (fun _ _ _ _ => True.intro) _ _ _ e3 R H' _ Sw x [] _ relw rx List.nodup_nil (by simp) fun σ2 S2 rl2 m2 o2 => ⟨wipe_off o2, s1, R, S2, rl2, ?_⟩
          cases e6 : c s1 with
          | err _ => rw [e6] at ec; cases ec
          | stuck => rw [e6] at ec; cases ec
          | ok b =>
            rw [e6] at ec
            intro H3 k3
            cases b with
            | false =>
              rw [if_neg Bool.false_ne_true]
              have ec : compL g c el is (ds.drop (i + 1)) s = .ok rest := ec
              exact ⟨acc, vs', T', rest, k3 _ _ hD2, racc.same rel2.dom k3, nT, fT, k2.trans k3, ec, er⟩
            | true =>
              rw [if_pos rfl]
              have ec : ((noErr (el s1)).bind fun y => (compL g c el is (ds.drop (i + 1)) s).bind fun r => .ok (y :: r)) = .ok rest := ec
              refine ⟨s1, R, S2, rl2.same k3, ?_⟩
              cases e7 : el s1 with
              | err _ => rw [e7] at ec; cases ec
              | stuck => rw [e7] at ec; cases ec
              | ok y =>
                rw [e7] at ec
                have ec : ((compL g c el is (ds.drop (i + 1)) s).bind fun r => .ok (y :: r)) = .ok rest := ec
                intro yv H4 Ty k4 ry ny fy
                cases e8 : compL g c el is (ds.drop (i + 1)) s with
                | err _ => rw [e8] at ec; cases ec
                | stuck => rw [e8] at ec; cases ec
                | ok rest' =>
                  rw [e8] at ec
                  cases ec
                  have kk : Same H' H4 := k3.trans k4
                  have hD4 : H4 Dd = some (.lst vs') := kk _ _ hD2
                  have rel4 := rel2.same kk
                  have racc4 := racc.same rel2.dom kk
                  have nDT : ∀ a ∈ Ty, a ≠ Dd := fun a ha e => by
                    have z := fy a ha
                    rw [e, k3 _ _ hD2] at z
                    cases z
                  have lacc := racc.length
                  have lrr : acc.length + (rest'.length + 1) = rr.length := by rw [← er, List.length_append, List.length_cons]
                  refine ⟨vs', hD4, by omega, acc ++ [y], vs' ++ [yv], T' ++ Ty, rest', upd_same, ?_, nodup_app (H := H) (H1 := H3) nT ny (fun a ha => by rw [at_of k3 (racc.owns a ha).some]; exact (racc.owns a ha).some) fy, fun a ha => ?_, fun a o ho => ?_, rfl, by rw [List.append_assoc]; exact er⟩
                  · have hR : ∀ a, R a → R a ∧ (upd H4 Dd (.lst (vs' ++ [yv]))) a = H4 a := fun a ha => ⟨ha, upd_ne fun e => rel.dom a ha (e ▸ nD)⟩
                    have ht : TupS H4 (upd H4 Dd (.lst (vs' ++ [yv]))) := fun a xs h => by
                      have ne : a ≠ Dd := fun e => by
                        subst e
                        rcases h with h | ⟨o, h⟩ <;> rw [hD4] at h <;> cases h
                      rcases h with h | ⟨o, h⟩
                      · exact .inl (by rw [upd_ne ne]; exact h)
                      · exact .inr ⟨o, by rw [upd_ne ne]; exact h⟩
                    have one : RpL C R H4 [y] [yv] (Ty ++ []) := RpL.cons ry RpL.nil
                    rw [List.append_nil] at one
                    exact RpL.fm hR ht (fun a ha => upd_ne (by
                      rcases List.mem_append.mp ha with ha | ha
                      · exact (fT a ha).2
                      · exact nDT a ha)) (racc4.append one)
                  · rcases List.mem_append.mp ha with ha | ha
                    · exact fT a ha
                    · exact ⟨k.free (k2.free (k3.free (fy a ha))), nDT a ha⟩
                  · rw [upd_ne (ne_of_none ho hD)]
                    exact kk _ _ (k2 _ _ ho)
      · have e5 : i = ds.length := by omega
        subst e5
        rw [List.drop_length] at ec
        cases ec
        rw [List.append_nil] at er
        subst er
        refine .inl ⟨w.stop, p _ H2 (Dd :: T') (k.trans k2) ?_ (List.nodup_cons.mpr ⟨fun z => (fT _ z).2 rfl, nT⟩) fun a ha => ?_⟩
        · unfold Rp
          exact ⟨Dd, vs', T', rfl, ⟨hD2, rfl⟩, racc⟩
        · rcases List.mem_cons.mp ha with rfl | ha
          · exact nD
          · exact (fT a ha).1
    · rw [if_neg hl] at p; exact p.elim
theorem lc_read {f : Fb} {is : List Nat} {g : Fg} {t : TG} {c : Ft} {el : Fb} {σ : L2.St} {H : Hp} {Q : VK} (hg : TgS (ct X) is g t) (h : tF (ct X) W (bLc f g c el is) σ H Q) :
    tLc (fun σ H R => tB (ct X) W f σ H fun x H1 => iterV X.K x H1 R) t (tT (ct X) WF c) (tF (ct X) WF el) is σ H Q := by
  obtain ⟨s, R, S, rel, p⟩ := h
  refine tB_seq rel p (fun c h => h) (fun h => h) fun d v H1 T e p k r => ?_
  cases e1 : itemsD d with
  | none => rw [e1] at p; exact p.elim
  | some ds =>
    rw [e1] at p
    change PostF (ct X) W R σ H Q (if shrL ds = true then _ else _) at p
    by_cases hs : shrL ds = true
    · rw [if_pos hs] at p
      refine iter_of e1 r ?_
      exact lc_body hg rel k (fun H2 k2 => walks_of e1 hs (r.same (rel.same k).dom k2)) p
    · rw [if_neg hs] at p; exact p.elim
/-- [.. for k in range(n)] -/
def bLcR1 (f : Fb) (g : Fg) (c : Ft) (el : Fb) (vs : List Nat) : Fb := fun s => (f s).bind fun d => match d with
  | .int j => if rgB 0 j = true then finL (compL g c el vs (rgD 0 j.toNat) s) else .stuck
  | _ => .stuck
def bLcR2 (f f' : Fb) (g : Fg) (c : Ft) (el : Fb) (vs : List Nat) : Fb := fun s => (f s).bind fun d => (f' s).bind fun d' => match d, d' with
  | .int i, .int j => if rgB i j = true then finL (compL g c el vs (rgD i (j - i).toNat) s) else .stuck
  | _, _ => .stuck
theorem lcR1_read {f : Fb} {is : List Nat} {g : Fg} {t : TG} {c : Ft} {el : Fb} {σ : L2.St} {H : Hp} {Q : VK} (hg : TgS (ct X) is g t) (h : tF (ct X) W (bLcR1 f g c el is) σ H Q) :
    tLc (iRng1 (tCons (tB (ct X) W f) tNil)) t (tT (ct X) WF c) (tF (ct X) WF el) is σ H Q := by
  obtain ⟨s, R, S, rel, p⟩ := h
  refine tB_seq rel p (fun c h => h) (fun h => h) fun d v H1 T e p k r => ?_
  cases d with
  | int j =>
    change PostF (ct X) W R σ H Q (if rgB 0 j = true then _ else _) at p
    by_cases hs : rgB 0 j = true
    · rw [if_pos hs] at p
      have hb' := of_decide_eq_true hs
      exact ⟨j, by rw [r.1], hb'.2.2.1, hb'.2.2.2, lc_body hg rel k (fun H2 k2 => walks_rg) p⟩
    · rw [if_neg hs] at p; exact p.elim
  | non => exact p.elim
  | bl _ => exact p.elim
  | str _ => exact p.elim
  | nd _ _ _ => exact p.elim
theorem lcR2_read {f f' : Fb} {is : List Nat} {g : Fg} {t : TG} {c : Ft} {el : Fb} {σ : L2.St} {H : Hp} {Q : VK} (hg : TgS (ct X) is g t) (h : tF (ct X) W (bLcR2 f f' g c el is) σ H Q) :
    tLc (iRng2 (tCons (tB (ct X) W f) (tCons (tB (ct X) W f') tNil))) t (tT (ct X) WF c) (tF (ct X) WF el) is σ H Q := by
  obtain ⟨s, R, S, rel, p⟩ := h
  refine tB_seq rel p (fun c h => h) (fun h => h) fun d v H1 T e p k r => ?_
  refine tB_seq (P := PostF (ct X) W R σ H Q) (rel.same k) p (fun c h H' cl k' hc => h H' cl (k.trans k') hc) (fun h => h) fun d' v' H2 T' e' p' k' r' => ?_
  cases d with
  | int i =>
    cases d' with
    | int j =>
      change PostF (ct X) W R σ H Q (if rgB i j = true then _ else _) at p'
      by_cases hs : rgB i j = true
      · rw [if_pos hs] at p'
        have hb' := of_decide_eq_true hs
        exact ⟨i, j, by rw [r.1, r'.1], hb', lc_body hg rel (k.trans k') (fun H2 k2 => walks_rg) p'⟩
      · rw [if_neg hs] at p'; exact p'.elim
    | non => exact p'.elim
    | bl _ => exact p'.elim
    | str _ => exact p'.elim
    | nd _ _ _ => exact p'.elim
  | non => exact p'.elim
  | bl _ => exact p'.elim
  | str _ => exact p'.elim
  | nd _ _ _ => exact p'.elim
/-- [elt for tg in iter if ..] -/
theorem pf_lc {elt tg iter : Expr} {ifs : List Expr} {scope : Scope} {own : List (Str × Nat)} {pos : Pos} {f : Fb} {g : Fg} {t : TG} {c : Ft} {el : Fb} (hc : X.calm = true) (hN : X.N.Nodup) (hi : PB X W iter f) (ok : BlkOk X.N X.env.scope scope own)
    (hg : ∀ (s : Shared) (H : Hp) (C : Addr) (cl : List (Str × Addr)) (fp : List Addr), PGd (X.blk s H scope (compEnvC scope cl C X.env) fp) tg (own.map (·.2)) g t)
    (ht : ∀ (s : Shared) (H : Hp) (C : Addr) (cl : List (Str × Addr)) (fp : List Addr), PTs (X.blk s H scope (compEnvC scope cl C X.env) fp) ifs (tT (ct X) WF c))
    (he : ∀ (s : Shared) (H : Hp) (C : Addr) (cl : List (Str × Addr)) (fp : List Addr), PF (X.blk s H scope (compEnvC scope cl C X.env) fp) WF elt el) (hs : ∀ x, foldedSetIterable iter X.env x = pure x := by intro _; rfl) :
    PF X W (.ListComp elt [⟨tg, iter, ifs, 0⟩] scope pos) (bLc f g c el (own.map (·.2))) := by
  have sem : TgS (ct X) (own.map (·.2)) g t := (hg X.s_0 X.H_0 0 [] []).sem
  exact pe_imp (pe_lc hc hN (pi_any hi) ok (fun s H C cl fp => (hg s H C cl fp).pg) ht he hs) fun σ H Q h => lc_read sem h
/-- name = [..] on one line -/
theorem psd_setLc {i : Nat} {y : Str} {py : Pos} {elt tg iter : Expr} {ifs : List Expr} {scope : Scope} {own : List (Str × Nat)} {pos spos : Pos} {f : Fb} {g : Fg} {t : TG} {c : Ft} {el : Fb} (hk : Keeps W [i]) (hc : X.calm = true) (hN : X.N.Nodup) (hy : X.N[i]? = some y) (hyl : X.env.scope.names.lookup y = some .local)
    (hsw : swapsWith (.ListComp elt [⟨tg, iter, ifs, 0⟩] scope pos) (some (.Name y py)) spos.line X.env = pure true) (hi : PB X W iter f) (ok : BlkOk X.N X.env.scope scope own)
    (hg : ∀ (s : Shared) (H : Hp) (C : Addr) (cl : List (Str × Addr)) (fp : List Addr), PGd (X.blk s H scope (compEnvC scope cl C X.env) fp) tg (own.map (·.2)) g t)
    (ht : ∀ (s : Shared) (H : Hp) (C : Addr) (cl : List (Str × Addr)) (fp : List Addr), PTs (X.blk s H scope (compEnvC scope cl C X.env) fp) ifs (tT (ct X) WF c))
    (he : ∀ (s : Shared) (H : Hp) (C : Addr) (cl : List (Str × Addr)) (fp : List Addr), PF (X.blk s H scope (compEnvC scope cl C X.env) fp) WF elt el)
    (hs : ∀ x, foldedSetIterable iter X.env x = pure x := by intro _; rfl) :
    PSd X W (.Assign [.Name y py] (.ListComp elt [⟨tg, iter, ifs, 0⟩] scope pos) spos) (sSet i (oF (bLc f g c el (own.map (·.2))))) := by
  have sem : TgS (ct X) (own.map (·.2)) g t := (hg X.s_0 X.H_0 0 [] []).sem
  refine ps_imp (L2.ps_setLc (te := tF (ct X) WF el) hc hN hy hyl hsw (pi_any hi) ok (fun s H C cl fp => (hg s H C cl fp).pg) ht he hs) fun D σ H h => ?_
  refine lc_read (W := W) sem ?_
  obtain ⟨s, R, S, rel, p⟩ := h
  refine ⟨s, R, S, rel, ?_⟩
  unfold sSet sO oF at p
  cases e : bLc f g c el (own.map (·.2)) s with
  | ok d =>
    rw [e] at p
    intro v H' T k r n fr
    have fr' : Fr R S H R (S ++ T) H' := Fr.same k fun a ha => by
      rcases List.mem_append.mp ha with ha | ha
      · exact .inl ha
      · exact .inr (fr a ha)
    obtain ⟨S2, rel2, m⟩ := (rel.same k).put (i := i) hk r n fun a ha => ⟨fun z => (rel.sl.owns a z).some (fr a ha), fun z => rel.dom a z (fr a ha)⟩
    exact p _ H' R S2 rel2 ⟨fr'.out, fr'.tup, fr'.rr, fr'.rn, fun a ha => fr'.sn a (List.mem_append.mpr (m a ha)), fr'.dm⟩
  | err c => rw [e] at p; exact fun H' cl k hc => p σ H' R S cl (rel.same k) (Fr.same k fun a ha => .inl ha) hc
  | stuck => rw [e] at p; exact p
/-- [elt for tg in iter if ..] -/
theorem pf_lcR1 {rp rpos : Pos} {a : Expr} {elt tg : Expr} {ifs : List Expr} {scope : Scope} {own : List (Str × Nat)} {pos : Pos} {f : Fb} {g : Fg} {t : TG} {c : Ft} {el : Fb} (hc : X.calm = true) (hN : X.N.Nodup) (hgl : Gl X "range") (hm : X.mg "range" = none) (ha : PB X W a f) (ok : BlkOk X.N X.env.scope scope own)
    (hg : ∀ (s : Shared) (H : Hp) (C : Addr) (cl : List (Str × Addr)) (fp : List Addr), PGd (X.blk s H scope (compEnvC scope cl C X.env) fp) tg (own.map (·.2)) g t)
    (ht : ∀ (s : Shared) (H : Hp) (C : Addr) (cl : List (Str × Addr)) (fp : List Addr), PTs (X.blk s H scope (compEnvC scope cl C X.env) fp) ifs (tT (ct X) WF c))
    (he : ∀ (s : Shared) (H : Hp) (C : Addr) (cl : List (Str × Addr)) (fp : List Addr), PF (X.blk s H scope (compEnvC scope cl C X.env) fp) WF elt el) (h0 : starEach [a] X.env = (false, eval a X.env) :: starEach [] X.env := by rfl) (h1 : starEach [a] X.env = [(false, eval a X.env)] := by rfl) (hs : ∀ x, foldedSetIterable (.Call (.Name "range" rp) [a] [] rpos) X.env x = pure x := by intro _; rfl) :
    PF X W (.ListComp elt [⟨tg, (.Call (.Name "range" rp) [a] [] rpos), ifs, 0⟩] scope pos) (bLcR1 f g c el (own.map (·.2))) := by
  have sem : TgS (ct X) (own.map (·.2)) g t := (hg X.s_0 X.H_0 0 [] []).sem
  exact pe_imp (pe_lc hc hN (pi_range1 hgl hm (pa_cons ha pa_nil h0) h1) ok (fun s H C cl fp => (hg s H C cl fp).pg) ht he hs) fun σ H Q h => lcR1_read sem h
/-- name = [..] on one line -/
theorem psd_setLcR1 {i : Nat} {y : Str} {py : Pos} {rp rpos : Pos} {a : Expr} {elt tg : Expr} {ifs : List Expr} {scope : Scope} {own : List (Str × Nat)} {pos spos : Pos} {f : Fb} {g : Fg} {t : TG} {c : Ft} {el : Fb} (hk : Keeps W [i]) (hc : X.calm = true) (hN : X.N.Nodup) (hy : X.N[i]? = some y) (hyl : X.env.scope.names.lookup y = some .local)
    (hsw : swapsWith (.ListComp elt [⟨tg, (.Call (.Name "range" rp) [a] [] rpos), ifs, 0⟩] scope pos) (some (.Name y py)) spos.line X.env = pure true) (hgl : Gl X "range") (hm : X.mg "range" = none) (ha : PB X W a f) (ok : BlkOk X.N X.env.scope scope own)
    (hg : ∀ (s : Shared) (H : Hp) (C : Addr) (cl : List (Str × Addr)) (fp : List Addr), PGd (X.blk s H scope (compEnvC scope cl C X.env) fp) tg (own.map (·.2)) g t)
    (ht : ∀ (s : Shared) (H : Hp) (C : Addr) (cl : List (Str × Addr)) (fp : List Addr), PTs (X.blk s H scope (compEnvC scope cl C X.env) fp) ifs (tT (ct X) WF c))
    (he : ∀ (s : Shared) (H : Hp) (C : Addr) (cl : List (Str × Addr)) (fp : List Addr), PF (X.blk s H scope (compEnvC scope cl C X.env) fp) WF elt el)
    (h0 : starEach [a] X.env = (false, eval a X.env) :: starEach [] X.env := by rfl) (h1 : starEach [a] X.env = [(false, eval a X.env)] := by rfl) (hs : ∀ x, foldedSetIterable (.Call (.Name "range" rp) [a] [] rpos) X.env x = pure x := by intro _; rfl) :
    PSd X W (.Assign [.Name y py] (.ListComp elt [⟨tg, (.Call (.Name "range" rp) [a] [] rpos), ifs, 0⟩] scope pos) spos) (sSet i (oF (bLcR1 f g c el (own.map (·.2))))) := by
  have sem : TgS (ct X) (own.map (·.2)) g t := (hg X.s_0 X.H_0 0 [] []).sem
  refine ps_imp (L2.ps_setLc (te := tF (ct X) WF el) hc hN hy hyl hsw (pi_range1 hgl hm (pa_cons ha pa_nil h0) h1) ok (fun s H C cl fp => (hg s H C cl fp).pg) ht he hs) fun D σ H h => ?_
  refine lcR1_read (W := W) sem ?_
  obtain ⟨s, R, S, rel, p⟩ := h
  refine ⟨s, R, S, rel, ?_⟩
  unfold sSet sO oF at p
  cases e : bLcR1 f g c el (own.map (·.2)) s with
  | ok d =>
    rw [e] at p
    intro v H' T k r n fr
    have fr' : Fr R S H R (S ++ T) H' := Fr.same k fun a ha => by
      rcases List.mem_append.mp ha with ha | ha
      · exact .inl ha
      · exact .inr (fr a ha)
    obtain ⟨S2, rel2, m⟩ := (rel.same k).put (i := i) hk r n fun a ha => ⟨fun z => (rel.sl.owns a z).some (fr a ha), fun z => rel.dom a z (fr a ha)⟩
    exact p _ H' R S2 rel2 ⟨fr'.out, fr'.tup, fr'.rr, fr'.rn, fun a ha => fr'.sn a (List.mem_append.mpr (m a ha)), fr'.dm⟩
  | err c => rw [e] at p; exact fun H' cl k hc => p σ H' R S cl (rel.same k) (Fr.same k fun a ha => .inl ha) hc
  | stuck => rw [e] at p; exact p
/-- [elt for tg in iter if ..] -/
theorem pf_lcR2 {rp rpos : Pos} {a a' : Expr} {f' : Fb} {elt tg : Expr} {ifs : List Expr} {scope : Scope} {own : List (Str × Nat)} {pos : Pos} {f : Fb} {g : Fg} {t : TG} {c : Ft} {el : Fb} (hc : X.calm = true) (hN : X.N.Nodup) (hgl : Gl X "range") (hm : X.mg "range" = none) (ha : PB X W a f) (ha' : PB X W a' f') (ok : BlkOk X.N X.env.scope scope own)
    (hg : ∀ (s : Shared) (H : Hp) (C : Addr) (cl : List (Str × Addr)) (fp : List Addr), PGd (X.blk s H scope (compEnvC scope cl C X.env) fp) tg (own.map (·.2)) g t)
    (ht : ∀ (s : Shared) (H : Hp) (C : Addr) (cl : List (Str × Addr)) (fp : List Addr), PTs (X.blk s H scope (compEnvC scope cl C X.env) fp) ifs (tT (ct X) WF c))
    (he : ∀ (s : Shared) (H : Hp) (C : Addr) (cl : List (Str × Addr)) (fp : List Addr), PF (X.blk s H scope (compEnvC scope cl C X.env) fp) WF elt el) (h0 : starEach [a, a'] X.env = (false, eval a X.env) :: starEach [a'] X.env := by rfl) (h0' : starEach [a'] X.env = (false, eval a' X.env) :: starEach [] X.env := by rfl) (h1 : starEach [a, a'] X.env = [(false, eval a X.env), (false, eval a' X.env)] := by rfl) (h2 : starEach [a'] X.env = [(false, eval a' X.env)] := by rfl) (hs : ∀ x, foldedSetIterable (.Call (.Name "range" rp) [a, a'] [] rpos) X.env x = pure x := by intro _; rfl) :
    PF X W (.ListComp elt [⟨tg, (.Call (.Name "range" rp) [a, a'] [] rpos), ifs, 0⟩] scope pos) (bLcR2 f f' g c el (own.map (·.2))) := by
  have sem : TgS (ct X) (own.map (·.2)) g t := (hg X.s_0 X.H_0 0 [] []).sem
  exact pe_imp (pe_lc hc hN (pi_range2 hgl hm (pa_cons ha (pa_cons ha' pa_nil h0') h0) h1 h2) ok (fun s H C cl fp => (hg s H C cl fp).pg) ht he hs) fun σ H Q h => lcR2_read sem h
/-- name = [..] on one line -/
theorem psd_setLcR2 {i : Nat} {y : Str} {py : Pos} {rp rpos : Pos} {a a' : Expr} {f' : Fb} {elt tg : Expr} {ifs : List Expr} {scope : Scope} {own : List (Str × Nat)} {pos spos : Pos} {f : Fb} {g : Fg} {t : TG} {c : Ft} {el : Fb} (hk : Keeps W [i]) (hc : X.calm = true) (hN : X.N.Nodup) (hy : X.N[i]? = some y) (hyl : X.env.scope.names.lookup y = some .local)
    (hsw : swapsWith (.ListComp elt [⟨tg, (.Call (.Name "range" rp) [a, a'] [] rpos), ifs, 0⟩] scope pos) (some (.Name y py)) spos.line X.env = pure true) (hgl : Gl X "range") (hm : X.mg "range" = none) (ha : PB X W a f) (ha' : PB X W a' f') (ok : BlkOk X.N X.env.scope scope own)
    (hg : ∀ (s : Shared) (H : Hp) (C : Addr) (cl : List (Str × Addr)) (fp : List Addr), PGd (X.blk s H scope (compEnvC scope cl C X.env) fp) tg (own.map (·.2)) g t)
    (ht : ∀ (s : Shared) (H : Hp) (C : Addr) (cl : List (Str × Addr)) (fp : List Addr), PTs (X.blk s H scope (compEnvC scope cl C X.env) fp) ifs (tT (ct X) WF c))
    (he : ∀ (s : Shared) (H : Hp) (C : Addr) (cl : List (Str × Addr)) (fp : List Addr), PF (X.blk s H scope (compEnvC scope cl C X.env) fp) WF elt el)
    (h0 : starEach [a, a'] X.env = (false, eval a X.env) :: starEach [a'] X.env := by rfl) (h0' : starEach [a'] X.env = (false, eval a' X.env) :: starEach [] X.env := by rfl) (h1 : starEach [a, a'] X.env = [(false, eval a X.env), (false, eval a' X.env)] := by rfl) (h2 : starEach [a'] X.env = [(false, eval a' X.env)] := by rfl) (hs : ∀ x, foldedSetIterable (.Call (.Name "range" rp) [a, a'] [] rpos) X.env x = pure x := by intro _; rfl) :
    PSd X W (.Assign [.Name y py] (.ListComp elt [⟨tg, (.Call (.Name "range" rp) [a, a'] [] rpos), ifs, 0⟩] scope pos) spos) (sSet i (oF (bLcR2 f f' g c el (own.map (·.2))))) := by
  have sem : TgS (ct X) (own.map (·.2)) g t := (hg X.s_0 X.H_0 0 [] []).sem
  refine ps_imp (L2.ps_setLc (te := tF (ct X) WF el) hc hN hy hyl hsw (pi_range2 hgl hm (pa_cons ha (pa_cons ha' pa_nil h0') h0) h1 h2) ok (fun s H C cl fp => (hg s H C cl fp).pg) ht he hs) fun D σ H h => ?_
  refine lcR2_read (W := W) sem ?_
  obtain ⟨s, R, S, rel, p⟩ := h
  refine ⟨s, R, S, rel, ?_⟩
  unfold sSet sO oF at p
  cases e : bLcR2 f f' g c el (own.map (·.2)) s with
  | ok d =>
    rw [e] at p
    intro v H' T k r n fr
    have fr' : Fr R S H R (S ++ T) H' := Fr.same k fun a ha => by
      rcases List.mem_append.mp ha with ha | ha
      · exact .inl ha
      · exact .inr (fr a ha)
    obtain ⟨S2, rel2, m⟩ := (rel.same k).put (i := i) hk r n fun a ha => ⟨fun z => (rel.sl.owns a z).some (fr a ha), fun z => rel.dom a z (fr a ha)⟩
    exact p _ H' R S2 rel2 ⟨fr'.out, fr'.tup, fr'.rr, fr'.rn, fun a ha => fr'.sn a (List.mem_append.mpr (m a ha)), fr'.dm⟩
  | err c => rw [e] at p; exact fun H' cl k hc => p σ H' R S cl (rel.same k) (Fr.same k fun a ha => .inl ha) hc
  | stuck => rw [e] at p; exact p
/-! ### defs -/
/-- a def's promise: what the mirror m tells of frozen arguments -/
def spD (C : Ct) (n : Nat) (m : List D → Rb D) : Sp := fun vs H Q E => vs.length = n ∧ ∃ ds, RpL C (fun a => H a ≠ none) H ds vs [] ∧ (match m ds with
  | .ok d => ∀ v H' T, Same H H' → Rp C (fun _ => False) H' d v T → T.Nodup → (∀ a ∈ T, H a = none) → Q v H'
  | .err c => ∀ H' cl, Same H H' → C.mg c = some (.ref cl) → E (.ref cl) none H'
  | .stuck => False)
/-- a body's end as a def's -/
def endD : Out → Rb D
  | .nx _ => .ok .non
  | .ret d _ => if own d = true then .ok d else .stuck
  | .err c _ => .err c
  | _ => .stuck
def fnD (N : Nat) (g : Fs) : List D → Rb D := fun ds => endD (g (ds.map some ++ List.replicate (N - ds.length) none))
theorem rps_start {C : Ct} {R : Addr → Prop} {H : Hp} {k : Nat} : ∀ {ds : List D} {vs : List V}, RpL C R H ds vs [] → RpS C R H (ds.map some ++ List.replicate k none) (vs.map some ++ List.replicate k none) []
  | [], vs, h => by
    unfold RpL at h
    rw [h.1]
    have : ∀ k, RpS C R H (List.replicate k none) (List.replicate k none) [] := fun k => by
      induction k with
      | zero => exact ⟨rfl, rfl⟩
      | succ k ih => exact ⟨none, _, [], [], rfl, rfl, rfl, ih⟩
    exact this k
  | d :: ds, vs, h => by
    unfold RpL at h
    obtain ⟨v, vs', S1, S2, e1, e2, h1, h2⟩ := h
    have z := (List.append_eq_nil_iff.mp e2.symm)
    rw [z.1] at h1
    rw [z.2] at h2
    subst e1
    exact ⟨some v, _, [], [], rfl, rfl, ⟨v, rfl, h1⟩, rps_start h2⟩
/-- the body's derivation gives the def's promise's reading -/
theorem body_read {C : Ct} {n : Nat} {N : List Str} {g : Fs} {vs : List V} {H : Hp} {Q : VK} {E : XK} (hn : n ≤ N.length) (h : spD C n (fnD N.length g) vs H Q E) :
    tSt C (WD E) g { nx := fun _ H' => Q .non H', rt := Q } (L2.start N vs) H := by
  obtain ⟨hl, ds, r, p⟩ := h
  have el := r.length
  have hs : L2.start N vs = vs.map some ++ List.replicate (N.length - ds.length) none := by unfold L2.start; rw [el]
  rw [hs]
  refine ⟨_, fun a => H a ≠ none, [], ⟨rps_start r, List.nodup_nil, by simp, fun a h => h, True.intro⟩, ?_⟩
  unfold fnD endD at p
  have same : ∀ {R' S' H'}, Fr (fun a => H a ≠ none) [] H R' S' H' → Same H H' := fun fr a o e => by
    rw [fr.out a (by rw [e]; exact fun z => by cases z) (by simp)]; exact e
  cases e : g (ds.map some ++ List.replicate (N.length - ds.length) none) with
  | nx s' =>
    simp only [e] at p
    exact fun σ' H' R' S' rel fr => p .non H' [] (same fr) ⟨rfl, rfl⟩ List.nodup_nil (by simp)
  | ret d s' =>
    simp only [e] at p
    intro v σ' H' R' S' T rel rd nd dj fr
    by_cases ho : own d = true
    · rw [if_pos ho] at p
      exact p v H' T (same fr) (rd.own ho) nd fun a ha => by
        rcases fr.sn a (List.mem_append_right _ ha) with z | z
        · cases z
        · exact z
    · rw [if_neg ho] at p; exact p.elim
  | brk s' => simp only [e] at p
  | ct s' => simp only [e] at p
  | err c s' =>
    simp only [e] at p
    exact fun σ' H' R' S' cl rel fr hc => p H' cl (same fr) hc
  | stuck => simp only [e] at p
/-- f(e, ..) -/
def bCall (m : List D → Rb D) (f : Slots → Rb (List D)) : Fb := fun s => (f s).bind fun ds => m (frzL ds)
theorem pf_call {k : Nat} {f : Addr} {fd : FuncData} {ps : List Str} {x : Str} {p : Pos} {e : Expr} {es : List Expr} {n : Nat} {m : List D → Rb D} {h : Slots → Rb (List D)} (F : FnOk X.prog X.w X.K X.mg X.base (L2.CX X.prog X.w) k f fd ps (spD (ct X) n m)) (tk : Takes X W.w) (hr : Room k X.A) (hg : Gl X x) (hm : X.mg x = some (.ref f)) (hk : PySem.W.keepIn X.K (.ref f) = true) (hb : Binds X.K fd ps [])
    (ha : PBs X W (e :: es) h) (hn : (e :: es).length = n := by rfl) (hdb : (x == ("__debug__" : Str)) = false := by decide) (he : starEach (e :: es) X.env = (false, eval e X.env) :: starEach es X.env := by rfl) (hpl : (backTo pos (starEach es X.env)).any (·.1) = false := by rfl)
    (hlen : ∀ s ds, h s = .ok ds → ds.length = n) :
    PF X W (.Call (.Name x p) (e :: es) [] pos) (bCall m h) := by
  refine pe_imp (pe_callS F hr hg hm hk hb (fun σ => passAt tk σ) ha hdb he hpl) fun σ H Q q => ?_
  obtain ⟨s, R, S, rel, p⟩ := q
  refine tBs_seq rel p (fun c h => h) (fun h => h) fun ds vs H1 T e1 p k r => ?_
  refine ⟨by rw [← r.length]; exact hlen s ds e1, frzL ds, r.frz (fun a ha => (rel.same k).dom a ha) (fun a ha => (r.owns a ha).some), ?_⟩
  cases e2 : m (frzL ds) with
  | ok d =>
    rw [e2] at p
    exact fun v H' T k' r' nT fT => p v H' T (k.trans k') (r'.fm (fun a h => h.elim) (fun _ _ h => h) fun _ _ => rfl) nT fun a ha => k.free (fT a ha)
  | err c =>
    rw [e2] at p
    exact fun H' cl k' hc => p H' cl (k.trans k') hc
  | stuck => rw [e2] at p; exact p.elim
end
end VL
/-! # VL9: raise, a def as a callee, the law's end -/
namespace VL
open PySem PySem.Spec PyProof.Rows L2
section
variable {X : Cx} {W : Wi} {pos : Pos}
def sRaise (c : Str) : Fs := fun s => .err c s
/-- what the written part tells of an own exception's class over ValueError -/
structure ExC (K : PySem.W.Frag) (mg : Str → Option Value) (x : Str) : Prop where
  ex : ∃ C, mg x = some (.ref C) ∧ PySem.W.excIn K C [.type "ValueError", .type "Exception", .type "BaseException", .type "object"] "ValueError.__new__" = true ∧ PySem.W.keepIn K (.ref C) = true ∧
    PySem.W.subIn K (.ref C) (.type "BaseException") = some true ∧ PySem.W.typeIn K (.ref C) = some (.type "type")
theorem psd_raise {x m : Str} {j : Nat} {p p2 pos2 : Pos} (hc : X.calm = true) (tk : Takes X W.w) (T : ExC X.K X.mg x) (hg : Gl X x) (hdb : (x == ("__debug__" : Str)) = false := by decide) :
    PSd X W (.Raise (some (.Call (.Name x p) [.Constant (.str m) j p2] [] pos)) none pos2) (sRaise x) := by
  obtain ⟨C, gC, q, kC, bP, tP⟩ := T.ex
  refine ps_imp (L2.ps_raise hc tk (L2.pmk_own PySem.F.excBase_ValueError q gC kC (raises_own bP tP) hg hdb)) fun D σ H h => ?_
  obtain ⟨s, R, S, rel, p⟩ := h
  exact p σ H R S C rel Fr.refl gC
end
/-- the names of a def's parameters, bound -/
def Cal (P : Program) (w : World) (K : PySem.W.Frag) (mg : Str → Option Value) (base : Heap) (k : Nat) (x : Str) (n : Nat) (m : List D → Rb D) : Prop :=
  ∃ f fd ps, FnOk P w K mg base (L2.CX P w) k f fd ps (spD ⟨K, mg⟩ n m) ∧ mg x = some (.ref f) ∧ PySem.W.keepIn K (.ref f) = true ∧ Binds K fd ps []
section
variable {P : Program} {w : World} {K : PySem.W.Frag} {mg : Str → Option Value} {base : Heap}
theorem fnok {x qual : Str} {st : Stmt} {f : Addr} {fd : FuncData} {N ps : List Str} {k : Nat} {g : Fs} (F : Fun K x qual st f fd) (S : FnScope N ps (defScope st)) (hn : ps.length ≤ N.length)
    (body : ∀ (cdv : Value) (A : Around) (outer : List Env) (s : Shared) (H : Hp) (E : XK), Room k (A.deeper (envOfC qual (defScope st) s.heap.objs.size f cdv)) →
      PSsd (cxOf (L2.CX P w) P w K mg base N qual (defScope st) f cdv A outer s H E) (WD E) (defBody st) g) :
    FnOk P w K mg base (L2.CX P w) (k + 1) f fd ps (spD ⟨K, mg⟩ ps.length (fnD N.length g)) :=
  F.okX S (fun vs H Q E h => h.1) fun cdv A outer s H vs Q E hr h => ⟨_, body cdv A outer s H E hr, body_read hn h⟩
/-- where the mirror is stuck nothing is promised -/
theorem fnok_stuck {k : Nat} {f : Addr} {fd : FuncData} {ps : List Str} : FnOk P w K mg base (L2.CX P w) k f fd ps (spD ⟨K, mg⟩ ps.length fun _ => .stuck) :=
  ⟨fun vs H Q E h => h.1, fun A outer s H args us vs Q E hr e0 hb hv h => by obtain ⟨_, _, _, z⟩ := h; exact z.elim⟩
end
section
variable {X : Cx} {W : Wi} {pos : Pos}
/-- a call of a def, by what its text keeps -/
theorem pf_cal {k j : Nat} {x : Str} {p : Pos} {e : Expr} {es : List Expr} {n : Nat} {m : List D → Rb D} {h : Slots → Rb (List D)} (F : Cal X.prog X.w X.K X.mg X.base k x n m) (tk : Takes X W.w) (hr : Room j X.A) (hkj : k ≤ j) (hg : Gl X x)
    (ha : PBs X W (e :: es) h) (hlen : ∀ s ds, h s = .ok ds → ds.length = n) (hdb : (x == ("__debug__" : Str)) = false := by decide) (he : starEach (e :: es) X.env = (false, eval e X.env) :: starEach es X.env := by rfl) (hpl : (backTo pos (starEach es X.env)).any (·.1) = false := by rfl) :
    PF X W (.Call (.Name x p) (e :: es) [] pos) (bCall m h) := by
  obtain ⟨f, fd, ps, F, hm, hk, hb⟩ := F
  refine pe_imp (pe_callS F (hr.mono hkj) hg hm hk hb (fun σ => passAt tk σ) ha hdb he hpl) fun σ H Q q => ?_
  obtain ⟨s, R, S, rel, p⟩ := q
  refine tBs_seq rel p (fun c h => h) (fun h => h) fun ds vs H1 T e1 p k r => ?_
  refine ⟨by rw [← r.length]; exact hlen s ds e1, frzL ds, r.frz (fun a ha => (rel.same k).dom a ha) (fun a ha => (r.owns a ha).some), ?_⟩
  cases e2 : m (frzL ds) with
  | ok d =>
    rw [e2] at p
    exact fun v H' T k' r' nT fT => p v H' T (k.trans k') (r'.fm (fun a h => h.elim) (fun _ _ h => h) fun _ _ => rfl) nT fun a ha => k.free (fT a ha)
  | err c =>
    rw [e2] at p
    exact fun H' cl k' hc => p H' cl (k.trans k') hc
  | stuck => rw [e2] at p; exact p.elim
theorem bNil_len : ∀ (s : Slots) (ds : List D), bNil s = .ok ds → ds.length = 0 := fun s ds h => by cases h; rfl
theorem bCons_len {f : Fb} {g : Slots → Rb (List D)} {n : Nat} (h : ∀ s ds, g s = .ok ds → ds.length = n) : ∀ (s : Slots) (ds : List D), bCons f g s = .ok ds → ds.length = n + 1 := fun s ds e => by
  unfold bCons at e
  cases z : f s with
  | err _ => rw [z] at e; cases e
  | stuck => rw [z] at e; cases e
  | ok d =>
    rw [z] at e
    cases y : g s with
    | err _ => simp only [Rb.bind_ok, y] at e; cases e
    | stuck => simp only [Rb.bind_ok, y] at e; cases e
    | ok ds' =>
      simp only [Rb.bind_ok, y] at e
      cases e
      rw [List.length_cons, h s ds' y]
end
/-- the script -/
def scriptD (ns : List Int) : D := .lst false (ns.map .int)
theorem rpl_ints {C : Ct} {R : Addr → Prop} {H : Hp} : ∀ ns : List Int, RpL C R H (ns.map D.int) (ns.map V.int) []
  | [] => RpL.nil
  | n :: ns => by
    have h : Rp C R H (D.int n) (V.int n) [] := ⟨rfl, rfl⟩
    exact RpL.cons h (rpl_ints ns)
/-- the law's promise -/
theorem law_sp {C : Ct} {m : List D → Rb D} {H : Hp} {a : Addr} {ns : List Int} (hS : SqL C.K H a (ns.map V.int)) (hm : m [scriptD ns] = .ok (.bl true)) :
    spD C 1 m [.ref a] H (fun v _ => v = .bl true) fun _ _ _ => False := by
  refine ⟨rfl, [scriptD ns], ?_, ?_⟩
  · have h : Rp C (fun a => H a ≠ none) H (scriptD ns) (.ref a) [] := by
      unfold scriptD Rp
      refine ⟨a, ns.map V.int, [], rfl, ⟨?_, rfl, rfl⟩, rpl_ints ns⟩
      rcases hS with h | h
      · refine .inl ⟨?_, h⟩
        rcases h with h | ⟨o, h⟩ <;> rw [h] <;> exact fun z => by cases z
      · exact .inr h
    exact RpL.cons h RpL.nil
  · rw [hm]
    exact fun v H' T _ r _ _ => r.1
theorem cx_none {P : Program} {w : World} {H : Hp} {s : Shared} {e : Value} {s' : Shared} (h : L2.CX P w [] H s (fun _ _ _ => False) e s') : False := by
  obtain ⟨_, _, _, _, _, _, _, _, _, _, _, _, z⟩ := h
  exact z
end VL
namespace VL
open PySem PySem.Spec PyProof.Rows L2
/-! ### short words for printed derivations -/
theorem kpD {E : XK} {is : List Nat} : Keeps (WD E) is := fun _ _ _ _ => True.intro
theorem hu65 {k : Nat} {A : Around} (hr : Room k A) : A.units + 65 < cLine := by have := hr.un; omega
theorem hu64 {k : Nat} {A : Around} (hr : Room k A) : A.units + 64 < cLine := by have := hr.un; omega
theorem hu1 {k : Nat} {A : Around} (hr : Room k A) : A.units + 1 < cLine := by have := hr.un; omega
section
variable {P : Program} {w : World} {K : PySem.W.Frag} {mg : Str → Option Value} {base : Heap} {N : List Str} {qual : Str} {scope : Scope} {f : Addr} {cdv : Value} {A : Around} {outer : List Env} {s : Shared} {H : Hp} {E : XK}
theorem tkD : Takes (cxOf (L2.CX P w) P w K mg base N qual scope f cdv A outer s H E) (WD E).w := takes_of rfl rfl rfl rfl
theorem psD : PassesOwn (model P w) (cxOf (L2.CX P w) P w K mg base N qual scope f cdv A outer s H E).A (cxOf (L2.CX P w) P w K mg base N qual scope f cdv A outer s H E).env (cxOf (L2.CX P w) P w K mg base N qual scope f cdv A outer s H E).xe := passes_of (X := cxOf (L2.CX P w) P w K mg base N qual scope f cdv A outer s H E) rfl
theorem tkB {X : Cx} : Takes X WF.w := takes0
end
section
variable {X : Cx} {W : Wi} {pos : Pos}
theorem pf_gI {x : Str} {i : Int} (hg : Gl X x) (hm : ∃ t, X.mg x = some (.int i t)) (hd : (x == ("__debug__" : Str)) = false := by decide) : PF X W (.Name x pos) (bC (.int i)) := by
  obtain ⟨t, h⟩ := hm
  exact pf_globI hg h ⟨t, rfl⟩ hd
theorem pf_gS {x : Str} {i : Str} (hg : Gl X x) (hm : ∃ t, X.mg x = some (.str i t)) (hd : (x == ("__debug__" : Str)) = false := by decide) : PF X W (.Name x pos) (bC (.str i)) := by
  obtain ⟨t, h⟩ := hm
  exact pf_globS hg h ⟨t, rfl⟩ hd
end
end VL
namespace VL
open PySem PySem.Spec PyProof.Rows L2
@[irreducible] def bigFuel : Nat := 100000
theorem bigFuel_eq : bigFuel = 100000 := by unfold bigFuel; rfl
/-- the law as its caller asks it -/
def lawSp (K : PySem.W.Frag) : Sp := fun vs H Q _ => ∃ (a : Addr) (ns : List Int), vs = [.ref a] ∧ SqL K H a (ns.map V.int) ∧ ns.length ≤ 63 ∧ ∀ H', Q (.bl true) H'
theorem lawSp_of {K : PySem.W.Frag} {mg : Str → Option Value} {m : List D → Rb D} (hm : ∀ ns : List Int, ns.length ≤ 63 → m [scriptD ns] = .ok (.bl true)) {vs : List V} {H : Hp} {Q : VK} {E : XK} (h : lawSp K vs H Q E) : spD ⟨K, mg⟩ 1 m vs H Q E := by
  obtain ⟨a, ns, rfl, hS, hl, q⟩ := h
  refine ⟨rfl, [scriptD ns], ?_, ?_⟩
  · have h : Rp ⟨K, mg⟩ (fun a => H a ≠ none) H (scriptD ns) (.ref a) [] := by
      unfold scriptD Rp
      refine ⟨a, ns.map V.int, [], rfl, ⟨?_, rfl, rfl⟩, rpl_ints ns⟩
      rcases hS with h | h
      · refine .inl ⟨?_, h⟩
        rcases h with h | ⟨o, h⟩ <;> rw [h] <;> exact fun z => by cases z
      · exact .inr h
    exact RpL.cons h RpL.nil
  · rw [hm ns hl]
    intro v H' T _ r _ _
    rw [r.1]
    exact q H'
theorem walkL {l : PySem.W.OpenLaw} {q : Program} {loose : List Str} {XP : (Str → Option Value) → Heap → Prop} {YP : World → Heap → Prop} {d : DefRec} {K : Params → PySem.W.Frag} {k : Nat} {x : Str} (hn : l.most = some 63) (hdf : d.params.defaults = []) (hr : Room k callerA)
    (hY : ∀ (w : World) (h : Heap), YP w h → (K w.params).In h)
    (F : ∀ (w : World) (mg : Str → Option Value) (fa : Addr) (h : Heap), (K w.params).In h → h.Ns mainGlobals mg → mg d.name = some (.ref fa) →
      ∃ fd : FuncData, (∀ (s : Shared) (u : Value), BindsTo s fd ⟨[u], []⟩ [(x, u)]) ∧ ∀ base : Heap, (K w.params).In base → base.Ns mainGlobals mg → FnOk l.prog w (K w.params) mg base (L2.CX l.prog w) k fa fd [x] (lawSp (K w.params))) :
    PySem.W.WalkO q loose XP YP l.row.toRowW d [] (fun f vs => PySem.call f vs) :=
  L2.walk_of (n := 63) (k := k) (x := x) (CX := fun w => L2.CX l.prog w) (sp := fun w => lawSp (K w.params)) hn (by decide) hdf hr hY F (fun _ _ a ns hl _ hS => ⟨a, ns, rfl, hS, hl, fun _ => rfl⟩) fun _ _ _ _ _ z => cx_none z
end VL
/-! # VL10: places that are changed -/
namespace VL
open PySem PySem.Spec PyProof.Rows L2
def getAt : List Nat → D → Option D
  | [], d => some d
  | n :: π, .nd _ _ ds => (ds[n]?).bind (getAt π)
  | _ :: _, _ => none
def setAt (e : D) : List Nat → D → D
  | [], _ => e
  | n :: π, .nd k m ds => .nd k m (ds.set n (setAt e π (ds.getD n .non)))
  | _ :: _, d => d
section
variable {C : Ct} {W : Wi} {R : Addr → Prop} {H : Hp}
/-- what a change at a place asks of a later heap -/
structure Chg (R : Addr → Prop) (H : Hp) (Sr : List Addr) (R2 : Addr → Prop) (H2 : Hp) : Prop where
  hR : ∀ a, R a → R2 a ∧ H2 a = H a
  ht : TupS H H2
  hS : ∀ a ∈ Sr, H2 a = H a
theorem Chg.mono {R2 : Addr → Prop} {H2 : Hp} {S S' : List Addr} (c : Chg R H S R2 H2) (h : ∀ a ∈ S', a ∈ S) : Chg R H S' R2 H2 := ⟨c.hR, c.ht, fun a ha => c.hS a (h a ha)⟩
theorem RpL.lens : ∀ {ds : List D} {vs : List V} {S : List Addr} {n : Nat} {d : D}, RpL C R H ds vs S → ds[n]? = some d → ∃ v Sd Sr, vs[n]? = some v ∧ Rp C R H d v Sd ∧ S.Perm (Sd ++ Sr) ∧
    ∀ R2 H2 e Sn, Chg R H Sr R2 H2 → Rp C R2 H2 e v Sn → ∃ S2, RpL C R2 H2 (ds.set n e) vs S2 ∧ S2.Perm (Sn ++ Sr)
  | [], _, _, _, _, _, e => by simp at e
  | d :: ds, _, _, 0, d', h, e => by
    unfold RpL at h
    obtain ⟨v, vs', S1, S2, e1, e2, h1, h2⟩ := h
    simp at e
    subst e e1 e2
    refine ⟨v, S1, S2, rfl, h1, List.Perm.refl _, fun R2 H2 e Sn c r => ⟨Sn ++ S2, RpL.cons r (h2.fm c.hR c.ht c.hS), List.Perm.refl _⟩⟩
  | d :: ds, _, _, n + 1, d', h, e => by
    unfold RpL at h
    obtain ⟨v, vs', S1, S2, e1, e2, h1, h2⟩ := h
    subst e1 e2
    obtain ⟨w, Sd, Sr, q1, q2, q3, q4⟩ := RpL.lens (n := n) h2 (by simpa using e)
    refine ⟨w, Sd, S1 ++ Sr, by simpa using q1, q2, ?_, fun R2 H2 e Sn c r => ?_⟩
    · refine (List.Perm.append_left S1 q3).trans ?_
      rw [← List.append_assoc, ← List.append_assoc]
      exact List.Perm.append_right Sr List.perm_append_comm
    · obtain ⟨S3, p1, p2⟩ := q4 R2 H2 e Sn (c.mono fun a ha => List.mem_append_right _ ha) r
      refine ⟨S1 ++ S3, RpL.cons (h1.fm c.hR c.ht fun a ha => c.hS a (List.mem_append_left _ ha)) p1, ?_⟩
      refine (List.Perm.append_left S1 p2).trans ?_
      rw [← List.append_assoc, ← List.append_assoc]
      exact List.Perm.append_right Sr List.perm_append_comm
/-- a node's cell with other children -/
theorem Cell.split {k : Kd} {m : Bool} {a : Addr} {vs : List V} {S' S : List Addr} (h : Cell C R H k m a vs S' S) (hne : S' ≠ []) : ∃ own, S = own ++ S' ∧
    ∀ R2 H2, (∀ b ∈ own, H2 b = H b) → TupS H H2 → ∀ S2', Cell C R2 H2 k m a vs S2' (own ++ S2') := by
  cases k with
  | tup => exact ⟨[], h.2, fun R2 H2 _ ht S2' => ⟨ht.sqt h.1, rfl⟩⟩
  | lst =>
    cases m with
    | true => exact ⟨[a], h.2, fun R2 H2 ho _ S2' => ⟨(ho a (by simp)).trans h.1, rfl⟩⟩
    | false => exact absurd h.2.1 hne
  | dct ks =>
    cases m with
    | true => exact ⟨[a], h.2.2, fun R2 H2 ho _ S2' => ⟨h.1, (ho a (by simp)).trans h.2.1, rfl⟩⟩
    | false => exact absurd h.2.2.2.1 hne
  | ins cn fs =>
    cases m with
    | true =>
      obtain ⟨cl, dx, h0, h1, h2⟩ := h.1
      exact ⟨[a], h.2, fun R2 H2 ho _ S2' => ⟨⟨cl, dx, h0, h1, (ho a (by simp)).trans h2⟩, rfl⟩⟩
    | false => exact absurd h.2.2.1 hne
theorem getAt_append : ∀ (π : List Nat) (d : D) (n : Nat), getAt (π ++ [n]) d = (getAt π d).bind (getAt [n])
  | [], d, n => rfl
  | k :: π, .nd _ _ ds, n => by
    show (ds[k]?).bind (getAt (π ++ [n])) = ((ds[k]?).bind (getAt π)).bind (getAt [n])
    cases ds[k]? with
    | none => rfl
    | some d => exact getAt_append π d n
  | _ :: _, .non, _ => rfl
  | _ :: _, .bl _, _ => rfl
  | _ :: _, .int _, _ => rfl
  | _ :: _, .str _, _ => rfl
end
/-! ### slots -/
def putAt (s : Slots) (i : Nat) (π : List Nat) (e : D) : Slots := match s[i]? with
  | some (some d) => s.set i (some (setAt e π d))
  | _ => s
theorem putAt_some {s : Slots} {i : Nat} {π : List Nat} {e d0 : D} (h : s[i]? = some (some d0)) : putAt s i π e = s.set i (some (setAt e π d0)) := by
  unfold putAt
  rw [h]
section
variable {C : Ct} {W : Wi} {R : Addr → Prop} {H : Hp}
/-- the value d at the place π of slot i is v; it may be replaced -/
def Lens (C : Ct) (R : Addr → Prop) (H : Hp) (s : Slots) (σ : L2.St) (S : List Addr) (i : Nat) (π : List Nat) (d : D) (v : V) : Prop :=
  ∃ d0 v0, s[i]? = some (some d0) ∧ σ[i]? = some (some v0) ∧ getAt π d0 = some d ∧ ∃ Sd Sr, Rp C R H d v Sd ∧ S.Perm (Sd ++ Sr) ∧
    (Sd ≠ [] → ∀ R2 H2 e Sn, Chg R H Sr R2 H2 → Rp C R2 H2 e v Sn → ∃ S2, RpS C R2 H2 (putAt s i π e) σ S2 ∧ S2.Perm (Sn ++ Sr))
theorem RpS.lens : ∀ {s : Slots} {σ : L2.St} {S : List Addr} {i : Nat} {d : D}, RpS C R H s σ S → s[i]? = some (some d) → ∃ v Sd Sr, σ[i]? = some (some v) ∧ Rp C R H d v Sd ∧ S.Perm (Sd ++ Sr) ∧
    ∀ R2 H2 e Sn, Chg R H Sr R2 H2 → Rp C R2 H2 e v Sn → ∃ S2, RpS C R2 H2 (s.set i (some e)) σ S2 ∧ S2.Perm (Sn ++ Sr)
  | [], _, _, _, _, _, e => by simp at e
  | o :: s, _, _, 0, d, h, e => by
    obtain ⟨x, σ', S1, S2, e1, e2, h1, h2⟩ := h
    simp at e
    subst e e1 e2
    obtain ⟨v, ev, r⟩ := h1
    subst ev
    exact ⟨v, S1, S2, rfl, r, List.Perm.refl _, fun R2 H2 e Sn c r => ⟨Sn ++ S2, ⟨_, _, _, _, rfl, rfl, ⟨v, rfl, r⟩, h2.fm c.hR c.ht c.hS⟩, List.Perm.refl _⟩⟩
  | o :: s, _, _, i + 1, d, h, e => by
    obtain ⟨x, σ', S1, S2, e1, e2, h1, h2⟩ := h
    subst e1 e2
    obtain ⟨v, Sd, Sr, q1, q2, q3, q4⟩ := RpS.lens (i := i) h2 (by simpa using e)
    refine ⟨v, Sd, S1 ++ Sr, by simpa using q1, q2, ?_, fun R2 H2 e Sn c r => ?_⟩
    · refine (List.Perm.append_left S1 q3).trans ?_
      rw [← List.append_assoc, ← List.append_assoc]
      exact List.Perm.append_right Sr List.perm_append_comm
    · obtain ⟨S3, p1, p2⟩ := q4 R2 H2 e Sn (c.mono fun a ha => List.mem_append_right _ ha) r
      refine ⟨S1 ++ S3, ⟨_, _, _, _, rfl, rfl, h1.fm c.hR c.ht fun a ha => c.hS a (List.mem_append_left _ ha), p1⟩, ?_⟩
      refine (List.Perm.append_left S1 p2).trans ?_
      rw [← List.append_assoc, ← List.append_assoc]
      exact List.Perm.append_right Sr List.perm_append_comm
theorem Lens.name {s : Slots} {σ : L2.St} {S : List Addr} {i : Nat} {d : D} (rel : Rel C W R H s σ S) (e : s[i]? = some (some d)) : ∃ v, σ[i]? = some (some v) ∧ Lens C R H s σ S i [] d v := by
  obtain ⟨v, Sd, Sr, q1, q2, q3, q4⟩ := rel.sl.lens e
  refine ⟨v, q1, d, v, e, q1, rfl, Sd, Sr, q2, q3, fun _ R2 H2 e' Sn c r => ?_⟩
  unfold putAt
  rw [e]
  exact q4 R2 H2 e' Sn c r
theorem setAt_append : ∀ (π : List Nat) (d0 e : D) (k : Kd) (m : Bool) (ds : List D) (n : Nat), getAt π d0 = some (.nd k m ds) → setAt e (π ++ [n]) d0 = setAt (.nd k m (ds.set n e)) π d0
  | [], d0, e, k, m, ds, n, h => by
    cases h
    rfl
  | j :: π, .nd k' m' ds', e, k, m, ds, n, h => by
    have h : (ds'[j]?).bind (getAt π) = some (.nd k m ds) := h
    show D.nd k' m' (ds'.set j (setAt e (π ++ [n]) (ds'.getD j .non))) = D.nd k' m' (ds'.set j (setAt _ π (ds'.getD j .non)))
    cases z : ds'[j]? with
    | none => rw [z] at h; cases h
    | some dj =>
      rw [z] at h
      have e2 : ds'.getD j .non = dj := by rw [List.getD_eq_getElem?_getD, z]; rfl
      rw [e2, setAt_append π dj e k m ds n h]
  | _ :: _, .non, _, _, _, _, _, h => by cases h
  | _ :: _, .bl _, _, _, _, _, _, h => by cases h
  | _ :: _, .int _, _, _, _, _, _, h => by cases h
  | _ :: _, .str _, _, _, _, _, _, h => by cases h
/-- from a node to a child -/
theorem Lens.child {s : Slots} {σ : L2.St} {S : List Addr} {i : Nat} {π : List Nat} {k : Kd} {m : Bool} {ds : List D} {v : V} {n : Nat} {d : D} (nd : S.Nodup) (h : Lens C R H s σ S i π (.nd k m ds) v) (e : ds[n]? = some d) :
    ∃ a vs S', v = .ref a ∧ (∃ Sd, Cell C R H k m a vs S' Sd) ∧ RpL C R H ds vs S' ∧ ∃ w, vs[n]? = some w ∧ Lens C R H s σ S i (π ++ [n]) d w := by
  obtain ⟨d0, v0, e1, e2, e3, Sd, Sr, r, p, u⟩ := h
  unfold Rp at r
  obtain ⟨a, vs, S', rfl, c, rl⟩ := r
  obtain ⟨w, Sc, Sq, q1, q2, q3, q4⟩ := rl.lens e
  have ndS := (p.nodup_iff.mp nd)
  have ndd := (List.nodup_append.mp ndS).1
  refine ⟨a, vs, S', rfl, ⟨Sd, c⟩, rl, w, q1, d0, v0, e1, e2, by rw [getAt_append, e3]; show (ds[n]?).bind _ = _; rw [e]; rfl, Sc, ?_⟩
  by_cases hSc : Sc = []
  · subst hSc
    exact ⟨S, q2, List.Perm.refl _, fun z => absurd rfl z⟩
  · have hne : S' ≠ [] := fun z => by
      rw [z] at q3
      have := q3.length_eq
      rw [List.length_append] at this
      exact hSc (List.eq_nil_of_length_eq_zero (by simp at this; omega))
    obtain ⟨own, o1, o2⟩ := c.split hne
    have hSd : Sd ≠ [] := fun z => by
      rw [z] at o1
      exact hne (List.append_eq_nil_iff.mp o1.symm).2
    have perm : ∀ {A B : List Addr}, B.Perm (A ++ Sq) → ((own ++ B) ++ Sr).Perm (A ++ (own ++ Sq ++ Sr)) := fun {A B} hb => by
      have h1 : (own ++ B).Perm (A ++ (own ++ Sq)) := by
        refine (List.Perm.append_left own hb).trans ?_
        rw [← List.append_assoc, ← List.append_assoc]
        exact List.Perm.append_right Sq List.perm_append_comm
      have h2 := List.Perm.append_right Sr h1
      rw [List.append_assoc A] at h2
      exact h2
    refine ⟨own ++ Sq ++ Sr, q2, ?_, fun _ R2 H2 e' Sn ch r' => ?_⟩
    · refine p.trans ?_
      rw [o1]
      exact perm q3
    · obtain ⟨S3, p1, p2⟩ := q4 R2 H2 e' Sn (ch.mono fun b hb => List.mem_append_left _ (List.mem_append_right _ hb)) r'
      have node : Rp C R2 H2 (.nd k m (ds.set n e')) (.ref a) (own ++ S3) := by
        unfold Rp
        exact ⟨a, vs, S3, rfl, o2 R2 H2 (fun b hb => ch.hS b (List.mem_append_left _ (List.mem_append_left _ hb))) ch.ht S3, p1⟩
      obtain ⟨S4, w1, w2⟩ := u hSd R2 H2 _ _ (ch.mono fun b hb => List.mem_append_right _ hb) node
      refine ⟨S4, ?_, w2.trans (perm p2)⟩
      rw [putAt_some e1] at w1 ⊢
      rw [setAt_append π d0 e' k m ds n e3]
      exact w1
/-- a place's value is replaced: the object at l is written; T: what comes in -/
theorem Lens.store {s : Slots} {σ : L2.St} {S T : List Addr} {i : Nat} {π : List Nat} {d e : D} {l : Addr} {o : HO} {H2 : Hp} (rel : Rel C W R H s σ S) (h : Lens C R H s σ S i π d (.ref l)) (k : Same H H2) (hT : ∀ a ∈ T, a ∉ S ∧ ¬ R a)
    (hd : ∀ Sd, Rp C R H d (.ref l) Sd → l ∈ Sd) (re : ∀ Sd, Rp C R H d (.ref l) Sd → Sd.Nodup → (∀ a ∈ Sd, a ∉ T) → (∀ a ∈ Sd, ¬ R a) → ∃ Sn, Rp C R (upd H2 l o) e (.ref l) Sn ∧ Sn.Nodup ∧ ∀ a ∈ Sn, a ∈ Sd ∨ a ∈ T) :
    ∃ S2, Rel C W R (upd H2 l o) (putAt s i π e) σ S2 ∧ Fr R (S ++ T) H R S2 (upd H2 l o) := by
  obtain ⟨d0, v0, e1, e2, e3, Sd, Sr, r, p, u⟩ := h
  have nd := p.nodup_iff.mp rel.nd
  have na := List.nodup_append.mp nd
  have hl := hd Sd r
  have inS : ∀ a ∈ Sd, a ∈ S := fun a ha => p.mem_iff.mpr (List.mem_append_left _ ha)
  have hlS : l ∈ S := inS l hl
  have hoff : ∀ a ∈ Sd, ¬ R a := fun a ha => rel.off a (inS a ha)
  obtain ⟨Sn, re1, re2, re3⟩ := re Sd r na.1 (fun a ha z => (hT a z).1 (inS a ha)) hoff
  have hown := r.owns l hl
  have hmut : ∀ xs, ¬ Rd H l (.tup xs) := fun xs z => hown.noTup z
  have nR : ∀ a, R a → a ≠ l := fun a ha e => rel.off l hlS (e ▸ ha)
  have ch : Chg R H Sr R (upd H2 l o) := ⟨fun a ha => ⟨ha, by rw [upd_ne (nR a ha)]; exact at_of k (rel.dom a ha)⟩, fun a xs hx => by
      have ne : a ≠ l := fun z => hmut xs (z ▸ hx)
      have := same_tups k a xs hx
      rcases this with h | ⟨ob, h⟩
      · exact .inl (by rw [upd_ne ne]; exact h)
      · exact .inr ⟨ob, by rw [upd_ne ne]; exact h⟩, fun a ha => by
      have ne : a ≠ l := fun z => na.2.2 l hl a ha z.symm
      rw [upd_ne ne]
      exact at_of k (rel.sl.owns a (p.mem_iff.mpr (List.mem_append_right _ ha))).some⟩
  obtain ⟨S2, q1, q2⟩ := u (fun z => by rw [z] at hl; cases hl) R (upd H2 l o) e Sn ch re1
  have dm : ∀ a, H a ≠ none → upd H2 l o a ≠ none := fun a ha => by
    by_cases z : a = l
    · subst z; rw [upd_same]; exact fun z => by cases z
    · rw [upd_ne z, at_of k ha]; exact ha
  have m : ∀ a ∈ S2, a ∈ S ∨ a ∈ T := fun a ha => by
    rcases List.mem_append.mp (q2.mem_iff.mp ha) with z | z
    · exact (re3 a z).imp (inS a) id
    · exact .inl (p.mem_iff.mpr (List.mem_append_right _ z))
  refine ⟨S2, ⟨q1, ?_, fun a ha hr => ?_, fun a ha => dm a (rel.dom a ha), rel.me⟩, ⟨fun a ha hs => ?_, ch.ht, fun _ h => h, fun _ h => .inl h, fun a ha => .inl (List.mem_append.mpr (m a ha)), dm⟩⟩
  · refine q2.nodup_iff.mpr (List.nodup_append.mpr ⟨re2, na.2.1, fun a ha b hb e => ?_⟩)
    subst e
    rcases re3 a ha with z | z
    · exact na.2.2 a z a hb rfl
    · exact (hT a z).1 (p.mem_iff.mpr (List.mem_append_right _ hb))
  · rcases m a ha with z | z
    · exact rel.off a z hr
    · exact (hT a z).2 hr
  · have ne : a ≠ l := fun z => hs (z ▸ List.mem_append_left _ hlS)
    rw [upd_ne ne, at_of k ha]
theorem Fr.fresh {S T S' : List Addr} {R2 : Addr → Prop} {H' : Hp} (h : Fr R (S ++ T) H R2 S' H') (f : ∀ a ∈ T, H a = none) : Fr R S H R2 S' H' := by
  have m : ∀ a, a ∈ S ++ T → a ∈ S ∨ H a = none := fun a ha => (List.mem_append.mp ha).imp id (f a)
  exact ⟨fun a ha hs => h.out a ha fun z => (m a z).elim hs ha, h.tup, h.rr, fun a ha => (h.rn a ha).imp id fun z => z.elim (m a) .inr, fun a ha => (h.sn a ha).elim (m a) .inr, h.dm⟩
end
/-! ### places as expressions -/
abbrev Fpt := Slots → Rb (Nat × List Nat × D)
def pName (i : Nat) : Fpt := fun s => match s[i]? with
  | some (some d) => .ok (i, [], d)
  | _ => .stuck
/-- the place of an item -/
def idxK (k : Key) : List Key → Option Nat
  | [] => none
  | k' :: ks => if k' = k then some 0 else (idxK k ks).map (· + 1)
def gIdx : D → D → Option Nat
  | .nd .lst _ ds, .int i => ixN ds.length i
  | .nd .tup _ ds, .int i => ixN ds.length i
  | .nd (.dct ks) _ _, k => (keyD k).bind fun k => idxK k ks
  | _, _ => none
def kidsD : D → List D
  | .nd _ _ ds => ds
  | _ => []
def pIx (p : Fpt) (f : Fb) : Fpt := fun s => (p s).bind fun x => (f s).bind fun k => match gIdx x.2.2 k with
  | some n => match (kidsD x.2.2)[n]? with
    | some d => .ok (x.1, x.2.1 ++ [n], d)
    | none => .stuck
  | none => .stuck
def PostPt (C : Ct) (W : Wi) (R : Addr → Prop) (S : List Addr) (s : Slots) (σ : L2.St) (H : Hp) (Q : VK) : Rb (Nat × List Nat × D) → Prop
  | .ok x => ∀ v H', Same H H' → Lens C R H' s σ S x.1 x.2.1 x.2.2 v → Q v H'
  | .err c => ∀ H' cl, Same H H' → C.mg c = some (.ref cl) → W.w (.ref cl) none σ H'
  | .stuck => False
def tPt (C : Ct) (W : Wi) (p : Fpt) : TE := fun σ H Q => ∃ s R S, Rel C W R H s σ S ∧ PostPt C W R S s σ H Q (p s)
abbrev PPt (X : Cx) (W : Wi) (e : Expr) (p : Fpt) : Prop := PE X e (tPt (ct X) W p)
theorem idxK_get {k : Key} : ∀ {ks : List Key} {n : Nat}, idxK k ks = some n → ks[n]? = some k ∧ ∀ {vs : List V} {w : V}, ks.length = vs.length → vs[n]? = some w → valV (ks.zip vs) k = some w
  | [], n, h => by cases h
  | k' :: ks, n, h => by
    unfold idxK at h
    by_cases e : k' = k
    · rw [if_pos e] at h
      cases h
      refine ⟨by rw [e]; rfl, fun {vs w} hl hw => ?_⟩
      cases vs with
      | nil => cases hw
      | cons v vs =>
        cases hw
        rw [List.zip_cons_cons]
        exact valV_pos e
    · rw [if_neg e] at h
      obtain ⟨m, h1, h2⟩ := Option.map_eq_some_iff.mp h
      subst h2
      obtain ⟨i1, i2⟩ := idxK_get h1
      refine ⟨by simpa using i1, fun {vs w} hl hw => ?_⟩
      cases vs with
      | nil => cases hw
      | cons v vs =>
        rw [List.zip_cons_cons, valV_neg e]
        exact i2 (by simpa using hl) (by simpa using hw)
section
variable {X : Cx} {W : Wi} {pos : Pos}
theorem pth_name (i : Nat) {x : Str} {pos : Pos} (hN : X.N[i]? = some x := by rfl) (hv : Vis X.env.scope x := by first | exact Or.inl rfl | exact Or.inr (Or.inl rfl) | exact Or.inr (Or.inr rfl)) (hd : (x == ("__debug__" : Str)) = false := by decide)
    (hcd : (x == ("__classdict__" : Str)) = false := by decide) : PPt X W (.Name x pos) (pName i) := pe_imp (pe_var hN hv hd hcd) fun σ H Q h => by
  obtain ⟨s, R, S, rel, p⟩ := h
  unfold pName at p
  cases e : s[i]? with
  | none => rw [e] at p; exact p.elim
  | some o =>
    cases o with
    | none => rw [e] at p; exact p.elim
    | some d =>
      rw [e] at p
      obtain ⟨v, q1, L⟩ := Lens.name rel e
      exact ⟨v, q1, p v H (Same.refl H) L⟩
theorem tPt_seq {C : Ct} {σ : L2.St} {H : Hp} {f : Fpt} {s : Slots} {R : Addr → Prop} {S : List Addr} {α : Type} {k : Nat × List Nat × D → Rb α} {P : Rb α → Prop} {Q : VK} (rel : Rel C W R H s σ S) (p : P ((f s).bind k))
    (herr : ∀ c, P (.err c) → ∀ H' cl, Same H H' → C.mg c = some (.ref cl) → W.w (.ref cl) none σ H') (hst : P .stuck → False)
    (hok : ∀ x v H', f s = .ok x → P (k x) → Same H H' → Lens C R H' s σ S x.1 x.2.1 x.2.2 v → Q v H') : tPt C W f σ H Q := by
  refine ⟨s, R, S, rel, ?_⟩
  cases e : f s with
  | ok d => rw [e] at p; exact fun v H' sm r => hok d v H' e p sm r
  | err c => rw [e] at p; exact herr c p
  | stuck => rw [e] at p; exact hst p
theorem PostPt.later {C : Ct} {R : Addr → Prop} {S : List Addr} {s : Slots} {σ : L2.St} {H : Hp} {Q : VK} {H1 : Hp} {r : Rb (Nat × List Nat × D)} (sm : Same H H1) (h : PostPt C W R S s σ H Q r) : PostPt C W R S s σ H1 Q r := by
  cases r with
  | ok d => exact fun v H' k r => h v H' (sm.trans k) r
  | err c => exact fun H' cl k e => h H' cl (sm.trans k) e
  | stuck => exact h
/-- a lens at a later heap -/
theorem Lens.same {C : Ct} {R : Addr → Prop} {H H' : Hp} {s : Slots} {σ : L2.St} {S : List Addr} {i : Nat} {π : List Nat} {d : D} {v : V} (rel : Rel C W R H s σ S) (k : Same H H') (h : Lens C R H s σ S i π d v) : Lens C R H' s σ S i π d v := by
  obtain ⟨d0, v0, e1, e2, e3, Sd, Sr, r, p, u⟩ := h
  refine ⟨d0, v0, e1, e2, e3, Sd, Sr, r.same rel.dom k, p, fun hne R2 H2 e Sn c r' => u hne R2 H2 e Sn ⟨fun a ha => ⟨(c.hR a ha).1, (c.hR a ha).2.trans (at_of k (rel.dom a ha))⟩, fun a xs hx => c.ht a xs (same_tups k a xs hx), fun a ha => (c.hS a ha).trans (at_of k (rel.sl.owns a (p.mem_iff.mpr (List.mem_append_right _ ha))).some)⟩ r'⟩
theorem Lens.rp {C : Ct} {R : Addr → Prop} {H : Hp} {s : Slots} {σ : L2.St} {S : List Addr} {i : Nat} {π : List Nat} {d : D} {v : V} (h : Lens C R H s σ S i π d v) : ∃ Sd, Rp C R H d v Sd := by
  obtain ⟨_, _, _, _, _, Sd, _, r, _⟩ := h
  exact ⟨Sd, r⟩
theorem pth_ix {a b : Expr} {p : Fpt} {f : Fb} (hu : X.A.units + 1 < cLine) (ha : PPt X W a p) (hb : PB X W b f) (hs : PlainIx b := by exact fun _ _ => rfl) : PPt X W (.Subscript a b pos) (pIx p f) := by
  refine pe_imp (pe_ix (IxR.or ix_seq (ix_dict hu)) ha hb hs) fun σ H Q h => ?_
  obtain ⟨s, R, S, rel, q⟩ := h
  refine tPt_seq (P := PostPt (ct X) W R S s σ H Q) rel q (fun c h => h) (fun h => h) fun x v H1 e1 q1 k1 L1 => ?_
  refine tB_seq (rel.same k1) (PostPt.later k1 q1) (fun c h => h) (fun h => h) fun kd kv H2 T2 e2 q2 k2 r2 => ?_
  have rel2 := rel.same (k1.trans k2)
  have LL := L1.same (rel.same k1) k2
  obtain ⟨i, π, d⟩ := x
  cases e3 : gIdx d kd with
  | none => simp only [e3] at q2; exact q2.elim
  | some n =>
    simp only [e3] at q2
    cases e4 : (kidsD d)[n]? with
    | none => rw [e4] at q2; exact q2.elim
    | some c =>
      rw [e4] at q2
      cases d with
      | non => cases e3
      | bl _ => cases e3
      | int _ => cases e3
      | str _ => cases e3
      | nd k m ds =>
        obtain ⟨a, vs, S', rfl, ⟨Sd, cell⟩, rl, w, hw, Lc⟩ := Lens.child rel2.nd LL e4
        have fin : Q w H2 := PostPt.later k2 q2 w H2 (Same.refl H2) Lc
        have hat : ∀ {z : Int}, ixN ds.length z = some n → L2.atI vs z = some w := fun {z} hz => by
          unfold L2.atI
          rw [← rl.length, hz]
          exact hw
        cases k with
        | lst =>
          cases kd with
          | int z =>
            refine .inl (.inl ⟨a, vs, z, w, rfl, r2.1, ?_, hat e3, fin⟩)
            cases m with
            | true => exact .inl (.inl cell.1)
            | false => exact cell.1.seq
          | non => cases e3
          | bl _ => cases e3
          | str _ => cases e3
          | nd _ _ _ => cases e3
        | tup =>
          cases kd with
          | int z => exact .inl (.inr (.inl ⟨a, vs, z, w, rfl, r2.1, cell.1, hat e3, fin⟩))
          | non => cases e3
          | bl _ => cases e3
          | str _ => cases e3
          | nd _ _ _ => cases e3
        | dct ks =>
          obtain ⟨key, z1, z2⟩ := Option.bind_eq_some_iff.mp e3
          obtain ⟨g1, g2⟩ := idxK_get z2
          rw [r2.key z1]
          have hl : ks.length = vs.length := by
            cases m with
            | true => exact cell.1.1
            | false => exact cell.1.1
          refine .inr ⟨a, w, rfl, .inl ⟨_, key, ?_, rfl, (g2 hl hw).symm⟩, fin⟩
          cases m with
          | true => exact .inl cell.2.1
          | false => exact cell.2.1
        | ins _ _ => cases e3
end
end VL
/-! # VL11: changes -/
namespace VL
open PySem PySem.Spec PyProof.Rows L2
section
variable {C : Ct} {W : Wi} {R : Addr → Prop} {H H2 : Hp}
theorem tupS_upd {l : Addr} {o : HO} (h : ∀ xs, ¬ Rd H l (.tup xs)) : TupS H (upd H l o) := fun a xs hx => by
  have ne : a ≠ l := fun z => h xs (z ▸ hx)
  rcases hx with h | ⟨ob, h⟩
  · exact .inl (by rw [upd_ne ne]; exact h)
  · exact .inr ⟨ob, by rw [upd_ne ne]; exact h⟩
theorem RpL.upd {ds : List D} {vs : List V} {S : List Addr} {l : Addr} {o : HO} (h : RpL C R H ds vs S) (hl : l ∉ S) (hR : ¬ R l) (ht : ∀ xs, ¬ Rd H l (.tup xs)) : RpL C R (upd H l o) ds vs S :=
  h.fm (fun a ha => ⟨ha, upd_ne (by intro e; subst e; exact hR ha)⟩) (tupS_upd ht) fun a ha => upd_ne (by intro e; subst e; exact hl ha)
theorem noTup_same {l : Addr} (k : Same H H2) (h : IsOwn H l) : ∀ xs, ¬ Rd H2 l (.tup xs) := fun xs hx => by
  have e := at_of k h.some
  exact h.noTup (rd_same e.symm hx)
/-- a list is written -/
theorem store_lst {s : Slots} {σ : L2.St} {S T : List Addr} {i : Nat} {π : List Nat} {ds es : List D} {l : Addr} {vs ws : List V} (rel : Rel C W R H s σ S) (L : Lens C R H s σ S i π (.nd .lst true ds) (.ref l)) (k : Same H H2) (hv : H l = some (.lst vs))
    (hT : ∀ a ∈ T, a ∉ S ∧ ¬ R a) (hlT : l ∉ T) (re : ∀ S', RpL C R H2 ds vs S' → S'.Nodup → (∀ a ∈ S', a ∉ T) → ∃ S2, RpL C R H2 es ws S2 ∧ S2.Nodup ∧ ∀ a ∈ S2, a ∈ S' ∨ a ∈ T) :
    ∃ S2, Rel C W R (upd H2 l (.lst ws)) (putAt s i π (.nd .lst true es)) σ S2 ∧ Fr R (S ++ T) H R S2 (upd H2 l (.lst ws)) := by
  refine L.store rel k hT (fun Sd r => ?_) fun Sd r nd dj off => ?_
  · obtain ⟨a, vs', S', e, _, _, e2⟩ := rp_lstO r
    cases e
    rw [e2]; simp
  · obtain ⟨a, vs', S', e, hv', rl, e2⟩ := rp_lstO r
    cases e
    rw [hv] at hv'
    cases hv'
    subst e2
    have na := List.nodup_cons.mp nd
    obtain ⟨S2, q1, q2, q3⟩ := re S' (rl.same rel.dom k) na.2 fun a ha => dj a (List.mem_cons_of_mem _ ha)
    have nl : l ∉ S2 := fun z => (q3 l z).elim na.1 hlT
    refine ⟨l :: S2, ?_, List.nodup_cons.mpr ⟨nl, q2⟩, fun a ha => ?_⟩
    · unfold Rp
      exact ⟨l, ws, S2, rfl, ⟨upd_same, rfl⟩, q1.upd nl (off l (by simp)) (noTup_same k (.inl ⟨_, hv⟩))⟩
    · rcases List.mem_cons.mp ha with rfl | ha
      · exact .inl (by simp)
      · exact (q3 a ha).imp (List.mem_cons_of_mem _) id
/-- a dict is written -/
theorem store_dct {s : Slots} {σ : L2.St} {S T : List Addr} {i : Nat} {π : List Nat} {ks ks' : List Key} {ds es : List D} {l : Addr} {vs ws : List V} (rel : Rel C W R H s σ S) (L : Lens C R H s σ S i π (.nd (.dct ks) true ds) (.ref l)) (k : Same H H2) (hl : ks.length = vs.length) (hv : H l = some (.dK (ks.zip vs)))
    (hT : ∀ a ∈ T, a ∉ S ∧ ¬ R a) (hlT : l ∉ T) (hl' : ks'.length = ws.length) (hn' : ks'.Nodup) (re : ∀ S', RpL C R H2 ds vs S' → S'.Nodup → (∀ a ∈ S', a ∉ T) → ∃ S2, RpL C R H2 es ws S2 ∧ S2.Nodup ∧ ∀ a ∈ S2, a ∈ S' ∨ a ∈ T) :
    ∃ S2, Rel C W R (upd H2 l (.dK (ks'.zip ws))) (putAt s i π (.nd (.dct ks') true es)) σ S2 ∧ Fr R (S ++ T) H R S2 (upd H2 l (.dK (ks'.zip ws))) := by
  have unz : ∀ {a b : List V}, ks.length = a.length → ks.length = b.length → ks.zip a = ks.zip b → a = b := fun {a b} h1 h2 e => by
    have := congrArg (List.map Prod.snd) e
    rwa [List.map_snd_zip (by omega), List.map_snd_zip (by omega)] at this
  refine L.store rel k hT (fun Sd r => ?_) fun Sd r nd dj off => ?_
  · unfold Rp at r
    obtain ⟨a, vs', S', e, c, rl⟩ := r
    cases e
    rw [c.2.2]; simp
  · unfold Rp at r
    obtain ⟨a, vs', S', e, c, rl⟩ := r
    cases e
    have hz := c.2.1
    rw [hv] at hz
    have ev : vs = vs' := unz hl c.1.1 (HO.dK.inj (Option.some.inj hz))
    subst ev
    have e2 := c.2.2
    subst e2
    have na := List.nodup_cons.mp nd
    obtain ⟨S2, q1, q2, q3⟩ := re S' (rl.same rel.dom k) na.2 fun a ha => dj a (List.mem_cons_of_mem _ ha)
    have nl : l ∉ S2 := fun z => (q3 l z).elim na.1 hlT
    refine ⟨l :: S2, ?_, List.nodup_cons.mpr ⟨nl, q2⟩, fun a ha => ?_⟩
    · unfold Rp
      exact ⟨l, ws, S2, rfl, ⟨⟨hl', hn'⟩, upd_same, rfl⟩, q1.upd nl (off l (by simp)) (noTup_same k (.inr (.inl ⟨_, hv⟩)))⟩
    · rcases List.mem_cons.mp ha with rfl | ha
      · exact .inl (by simp)
      · exact (q3 a ha).imp (List.mem_cons_of_mem _) id
theorem Lens.dct {s : Slots} {σ : L2.St} {S : List Addr} {i : Nat} {π : List Nat} {ks : List Key} {ds : List D} {v : V} (L : Lens C R H s σ S i π (.nd (.dct ks) true ds) v) : ∃ l vs S', v = .ref l ∧ ks.length = vs.length ∧ ks.Nodup ∧ H l = some (.dK (ks.zip vs)) ∧ RpL C R H ds vs S' := by
  obtain ⟨Sd, r⟩ := L.rp
  unfold Rp at r
  obtain ⟨a, vs, S', e, c, rl⟩ := r
  exact ⟨a, vs, S', e, c.1.1, c.1.2, c.2.1, rl⟩
theorem Lens.lst {s : Slots} {σ : L2.St} {S : List Addr} {i : Nat} {π : List Nat} {ds : List D} {v : V} (L : Lens C R H s σ S i π (.nd .lst true ds) v) : ∃ l vs S', v = .ref l ∧ H l = some (.lst vs) ∧ RpL C R H ds vs S' := by
  obtain ⟨Sd, r⟩ := L.rp
  obtain ⟨a, vs, S', e, h, rl, _⟩ := rp_lstO r
  exact ⟨a, vs, S', e, h, rl⟩
end
/-- a place's list, changed -/
def sLst (p : Fpt) (k : Nat → List Nat → List D → Out) (s : Slots) : Out := match p s with
  | .ok (i, π, .nd .lst true ds) => k i π ds
  | .err c => .err c s
  | _ => .stuck
def sApp (p : Fpt) (f : Fb) : Fs := fun s => sLst p (fun i π ds => match f s with
  | .ok d => if ds.length < sizeLine then .nx (putAt s i π (.nd .lst true (ds ++ [d]))) else .stuck
  | .err c => .err c s
  | .stuck => .stuck) s
section
variable {X : Cx} {W : Wi} {pos : Pos}
theorem tPt_lst {σ : L2.St} {H : Hp} {Dn : Ends} {p : Fpt} {k : Nat → List Nat → List D → Out} {Q : VK} {s : Slots} {R : Addr → Prop} {S : List Addr} (rel : Rel (ct X) W R H s σ S) (q : PostS (ct X) W R S H Dn (sLst p k s))
    (ok : ∀ i π ds l vs S' H1, Same H H1 → PostS (ct X) W R S H Dn (k i π ds) → Lens (ct X) R H1 s σ S i π (.nd .lst true ds) (.ref l) → H1 l = some (.lst vs) → RpL (ct X) R H1 ds vs S' → Q (.ref l) H1) : tPt (ct X) W p σ H Q := by
  refine ⟨s, R, S, rel, ?_⟩
  unfold sLst at q
  cases e : p s with
  | ok x =>
    rw [e] at q
    intro v H' sm L
    obtain ⟨i, π, d⟩ := x
    cases d with
    | nd kd m ds =>
      cases kd with
      | lst =>
        cases m with
        | true =>
          obtain ⟨l, vs, S', rfl, hv, rl⟩ := Lens.lst L
          exact ok i π ds l vs S' H' sm q L hv rl
        | false => exact q.elim
      | tup => exact q.elim
      | dct _ => exact q.elim
      | ins _ _ => exact q.elim
    | non => exact q.elim
    | bl _ => exact q.elim
    | int _ => exact q.elim
    | str _ => exact q.elim
  | err c => rw [e] at q; exact fun H' cl sm hc => q σ H' R S cl (rel.same sm) (Fr.same sm fun a ha => .inl ha) hc
  | stuck => rw [e] at q; exact q
theorem psd_app {o e : Expr} {p : Fpt} {f : Fb} {apos cpos : Pos} (ho : PPt X W o p) (he : PF X W e f)
    (hs0 : starEach [e] X.env = (false, eval e X.env) :: starEach [] X.env := by rfl)
    (hbase : attributeBase o "append" X.env (eval o X.env) = eval o X.env := by rfl)
    (hfew : ((backTo cpos (starEach [e] X.env)).all (fun x => !x.1) && (backToKw cpos (keywordEach [] X.env)).all (fun x => x.1.isSome)
      && decide ([e].length + ([] : List Keyword).length + (if ([] : List Keyword).isEmpty then 0 else 1) < 30)) = true := by rfl)
    (hline : (apos.endLine == cpos.line) = true := by rfl) (hplain : (backTo cpos (starEach [] X.env)).any (·.1) = false := by rfl)
    (hs : swapsWith (.Call (.Attribute o "append" apos) [e] [] cpos) none pos.line X.env = pure false := by rfl) : PSd X W (.Expr (.Call (.Attribute o "append" apos) [e] [] cpos) pos) (sApp p f) := by
  refine ps_imp (ps_expr (pe_bm PySem.F.plainAttrs_list PySem.F.slot_list_append PySem.F.type_list_append mt_append ho (pa_cons he pa_nil hs0) hbase hfew hline hs0 hplain) hs) fun D σ H h => ?_
  obtain ⟨s, R, S, rel, q⟩ := h
  refine tPt_lst rel q fun i π ds l vs S' H1 k1 q1 L hv rl => ⟨.inl ⟨rfl, _, .inl (.inl hv)⟩, ?_⟩
  have rel1 := rel.same k1
  refine ⟨s, R, S, rel1, ?_⟩
  cases e1 : f s with
  | ok d =>
    simp only [e1] at q1
    intro v H2 T k2 r n fr
    by_cases hl : ds.length < sizeLine
    · rw [if_pos hl] at q1
      refine ⟨l, vs, v, rfl, rfl, k2 _ _ hv, by rw [← rl.length]; exact hl, ?_⟩
      obtain ⟨S2, r2, f2⟩ := store_lst (es := ds ++ [d]) (ws := vs ++ [v]) rel1 L k2 hv (fun a ha => ⟨fun z => (rel1.sl.owns a z).some (fr a ha), fun z => rel1.dom a z (fr a ha)⟩) (fun z => by rw [fr l z] at hv; cases hv) fun S' rl' nd' dj' => by
        have one : RpL (ct X) R H2 [d] [v] (T ++ []) := RpL.cons r RpL.nil
        rw [List.append_nil] at one
        refine ⟨S' ++ T, rl'.append one, List.nodup_append.mpr ⟨nd', n, fun a ha b hb e => ?_⟩, fun a ha => List.mem_append.mp ha⟩
        subst e
        exact dj' a ha hb
      exact q1 σ _ R S2 r2 ((Fr.same k1 fun a ha => .inl ha).trans (f2.fresh fr))
    · rw [if_neg hl] at q1; exact q1.elim
  | err c => simp only [e1] at q1; exact fun H' cl sm hc => q1 σ H' R S cl (rel.same (k1.trans sm)) (Fr.same (k1.trans sm) fun a ha => .inl ha) hc
  | stuck => simp only [e1] at q1; exact q1
/-! xs.extend(e), e a list: its items shared -/
def sExt (p : Fpt) (f : Fb) : Fs := fun s => sLst p (fun i π ds => match f s with
  | .ok (.nd .lst true es) => if ds.length + es.length ≤ sizeLine ∧ shrL es = true then .nx (putAt s i π (.nd .lst true (ds ++ es))) else .stuck
  | .err c => .err c s
  | _ => .stuck) s
theorem psd_ext {o e : Expr} {p : Fpt} {f : Fb} {apos cpos : Pos} (ho : PPt X W o p) (he : PF X W e f)
    (hs0 : starEach [e] X.env = (false, eval e X.env) :: starEach [] X.env := by rfl)
    (hbase : attributeBase o "extend" X.env (eval o X.env) = eval o X.env := by rfl)
    (hfew : ((backTo cpos (starEach [e] X.env)).all (fun x => !x.1) && (backToKw cpos (keywordEach [] X.env)).all (fun x => x.1.isSome)
      && decide ([e].length + ([] : List Keyword).length + (if ([] : List Keyword).isEmpty then 0 else 1) < 30)) = true := by rfl)
    (hline : (apos.endLine == cpos.line) = true := by rfl) (hplain : (backTo cpos (starEach [] X.env)).any (·.1) = false := by rfl)
    (hs : swapsWith (.Call (.Attribute o "extend" apos) [e] [] cpos) none pos.line X.env = pure false := by rfl) : PSd X W (.Expr (.Call (.Attribute o "extend" apos) [e] [] cpos) pos) (sExt p f) := by
  refine ps_imp (ps_expr (pe_bm PySem.F.plainAttrs_list PySem.F.slot_list_extend PySem.F.type_list_extend mt_extend ho (pa_cons he pa_nil hs0) hbase hfew hline hs0 hplain) hs) fun D σ H h => ?_
  obtain ⟨s, R, S, rel, q⟩ := h
  refine tPt_lst rel q fun i π ds l vs S' H1 k1 q1 L hv rl => ⟨.inl ⟨rfl, _, .inl (.inl hv)⟩, ?_⟩
  have rel1 := rel.same k1
  refine ⟨s, R, S, rel1, ?_⟩
  cases e1 : f s with
  | ok d =>
    simp only [e1] at q1
    intro v H2 T k2 r n fr
    cases d with
    | nd kd m es =>
      cases kd with
      | lst =>
        cases m with
        | true =>
          by_cases hc : ds.length + es.length ≤ sizeLine ∧ shrL es = true
          · simp only [hc, and_self, if_true] at q1
            obtain ⟨b, ws, T', rfl, hb, rb, eT⟩ := rp_lstO r
            have rb := rb.nilS hc.2
            refine ⟨l, b, vs, ws, rfl, rfl, k2 _ _ hv, hb, by rw [← rl.length, ← rb.length]; exact hc.1, ?_⟩
            obtain ⟨S2, r2, f2⟩ := store_lst (T := []) (es := ds ++ es) (ws := vs ++ ws) rel1 L k2 hv (by simp) (by simp) fun S' rl' nd' dj' =>
              ⟨S' ++ [], rl'.append rb, by rw [List.append_nil]; exact nd', fun a ha => List.mem_append.mp ha⟩
            exact q1 σ _ R S2 r2 ((Fr.same k1 fun a ha => .inl ha).trans (f2.fresh (by simp)))
          · simp only [hc, if_false] at q1
            exact q1.elim
        | false => exact q1.elim
      | tup => exact q1.elim
      | dct _ => exact q1.elim
      | ins _ _ => exact q1.elim
    | non => exact q1.elim
    | bl _ => exact q1.elim
    | int _ => exact q1.elim
    | str _ => exact q1.elim
  | err c => simp only [e1] at q1; exact fun H' cl sm hc => q1 σ H' R S cl (rel.same (k1.trans sm)) (Fr.same (k1.trans sm) fun a ha => .inl ha) hc
  | stuck => simp only [e1] at q1; exact q1
/-! xs.reverse(): items shared -/
def sRev (p : Fpt) : Fs := fun s => sLst p (fun i π ds => if shrL ds = true then .nx (putAt s i π (.nd .lst true ds.reverse)) else .stuck) s
theorem rpl_rev {C : Ct} {R : Addr → Prop} {H : Hp} : ∀ {ds : List D} {vs : List V}, RpL C R H ds vs [] → RpL C R H ds.reverse vs.reverse []
  | [], vs, h => by
    unfold RpL at h
    rw [h.1]; exact RpL.nil
  | d :: ds, vs, h => by
    unfold RpL at h
    obtain ⟨v, vs', S1, S2, e1, e2, h1, h2⟩ := h
    have z := List.append_eq_nil_iff.mp e2.symm
    rw [z.1] at h1
    rw [z.2] at h2
    rw [e1, List.reverse_cons, List.reverse_cons]
    have one : RpL C R H [d] [v] ([] ++ []) := RpL.cons h1 RpL.nil
    exact RpL.append (rpl_rev h2) one
theorem psd_rev {o : Expr} {p : Fpt} {apos cpos : Pos} (ho : PPt X W o p) (hbase : attributeBase o "reverse" X.env (eval o X.env) = eval o X.env := by rfl) (hline : (apos.endLine == cpos.line) = true := by rfl)
    (hs : swapsWith (.Call (.Attribute o "reverse" apos) [] [] cpos) none pos.line X.env = pure false := by rfl) : PSd X W (.Expr (.Call (.Attribute o "reverse" apos) [] [] cpos) pos) (sRev p) := by
  refine ps_imp (ps_expr (pe_bm0 PySem.F.plainAttrs_list PySem.F.slot_list_reverse PySem.F.type_list_reverse mt_reverse ho hbase hline) hs) fun D σ H h => ?_
  obtain ⟨s, R, S, rel, q⟩ := h
  refine tPt_lst rel q fun i π ds l vs S' H1 k1 q1 L hv rl => ⟨.inl ⟨rfl, _, .inl (.inl hv)⟩, l, vs, rfl, rfl, hv, ?_⟩
  by_cases hc : shrL ds = true
  · rw [if_pos hc] at q1
    obtain ⟨S2, r2, f2⟩ := store_lst (T := []) (es := ds.reverse) (ws := vs.reverse) (rel.same k1) L (Same.refl H1) hv (by simp) (by simp) fun S' rl' nd' dj' =>
      ⟨[], rpl_rev (rl'.nilS hc), List.nodup_nil, by simp⟩
    exact q1 σ _ R S2 r2 ((Fr.same k1 fun a ha => .inl ha).trans (f2.fresh (by simp)))
  · rw [if_neg hc] at q1; exact q1.elim
/-! xs.pop(i): items shared -/
def sPop1 (p : Fpt) (f : Fb) : Fs := fun s => sLst p (fun i π ds => match f s with
  | .ok (.int z) => match ixN ds.length z with
    | some j => if shrL ds = true ∧ ds.length ≤ sizeLine then .nx (putAt s i π (.nd .lst true (ds.eraseIdx j))) else .stuck
    | none => .stuck
  | .err c => .err c s
  | _ => .stuck) s
theorem rpl_erase {C : Ct} {R : Addr → Prop} {H : Hp} : ∀ {ds : List D} {vs : List V} (j : Nat), RpL C R H ds vs [] → RpL C R H (ds.eraseIdx j) (vs.eraseIdx j) []
  | [], vs, j, h => by
    unfold RpL at h
    rw [h.1]; exact RpL.nil
  | d :: ds, vs, j, h => by
    unfold RpL at h
    obtain ⟨v, vs', S1, S2, e1, e2, h1, h2⟩ := h
    have z := List.append_eq_nil_iff.mp e2.symm
    rw [z.1] at h1
    rw [z.2] at h2
    rw [e1]
    cases j with
    | zero => exact h2
    | succ j =>
      have r := RpL.cons h1 (rpl_erase j h2)
      exact r
theorem psd_pop1 {o e : Expr} {p : Fpt} {f : Fb} {apos cpos : Pos} (ho : PPt X W o p) (he : PB X W e f)
    (hs0 : starEach [e] X.env = (false, eval e X.env) :: starEach [] X.env := by rfl)
    (hbase : attributeBase o "pop" X.env (eval o X.env) = eval o X.env := by rfl)
    (hfew : ((backTo cpos (starEach [e] X.env)).all (fun x => !x.1) && (backToKw cpos (keywordEach [] X.env)).all (fun x => x.1.isSome)
      && decide ([e].length + ([] : List Keyword).length + (if ([] : List Keyword).isEmpty then 0 else 1) < 30)) = true := by rfl)
    (hline : (apos.endLine == cpos.line) = true := by rfl) (hplain : (backTo cpos (starEach [] X.env)).any (·.1) = false := by rfl)
    (hs : swapsWith (.Call (.Attribute o "pop" apos) [e] [] cpos) none pos.line X.env = pure false := by rfl) : PSd X W (.Expr (.Call (.Attribute o "pop" apos) [e] [] cpos) pos) (sPop1 p f) := by
  refine ps_imp (ps_expr (pe_bm PySem.F.plainAttrs_list PySem.F.slot_list_pop PySem.F.type_list_pop mt_popAt ho (pa_cons he pa_nil hs0) hbase hfew hline hs0 hplain) hs) fun D σ H h => ?_
  obtain ⟨s, R, S, rel, q⟩ := h
  refine tPt_lst rel q fun i π ds l vs S' H1 k1 q1 L hv rl => ⟨.inl ⟨rfl, _, .inl (.inl hv)⟩, ?_⟩
  have rel1 := rel.same k1
  refine ⟨s, R, S, rel1, ?_⟩
  cases e1 : f s with
  | ok d =>
    simp only [e1] at q1
    intro v H2 T k2 r
    cases d with
    | int z =>
      cases e2 : ixN ds.length z with
      | none => simp only [e2] at q1; exact q1.elim
      | some j =>
        simp only [e2] at q1
        by_cases hc : shrL ds = true ∧ ds.length ≤ sizeLine
        · simp only [hc, and_self, if_true] at q1
          obtain ⟨i1, i2, i3, i4⟩ := ixN_seq e2
          have hlen := rl.length
          have hs24 : (sizeLine : Nat) < 2 ^ 63 := by decide
          have hvj : vs[j]? = some vs[j] := List.getElem?_eq_getElem (by omega)
          refine ⟨l, vs, z, j, vs[j], rfl, by rw [r.1], k2 _ _ hv, by omega, by omega, by rw [← hlen]; exact i1, hvj, ?_⟩
          obtain ⟨S2, r2, f2⟩ := store_lst (T := []) (es := ds.eraseIdx j) (ws := vs.eraseIdx j) rel1 L k2 hv (by simp) (by simp) fun S' rl' nd' dj' =>
            ⟨[], rpl_erase j (rl'.nilS hc.1), List.nodup_nil, by simp⟩
          exact q1 σ _ R S2 r2 ((Fr.same k1 fun a ha => .inl ha).trans (f2.fresh (by simp)))
        · simp only [hc, if_false] at q1
          exact q1.elim
    | nd _ _ _ => exact q1.elim
    | non => exact q1.elim
    | bl _ => exact q1.elim
    | str _ => exact q1.elim
  | err c => simp only [e1] at q1; exact fun H' cl sm hc => q1 σ H' R S cl (rel.same (k1.trans sm)) (Fr.same (k1.trans sm) fun a ha => .inl ha) hc
  | stuck => simp only [e1] at q1; exact q1
/-! ### items written: p[k] = e -/
def setItems (s : Slots) (i : Nat) (π : List Nat) (kd : D) (d : D) : D → Out
  | .nd .lst true ds => match kd with
    | .int z => match ixN ds.length z with
      | some j => .nx (putAt s i π (.nd .lst true (ds.set j d)))
      | none => .stuck
    | _ => .stuck
  | .nd (.dct ks) true ds => match keyD kd with
    | some k => match idxK k ks with
      | some j => if ks.length < sizeLine then .nx (putAt s i π (.nd (.dct ks) true (ds.set j d))) else .stuck
      | none => if ks.length < sizeLine then .nx (putAt s i π (.nd (.dct (ks ++ [k])) true (ds ++ [d]))) else .stuck
    | none => .stuck
  | _ => .stuck
def sPut (p : Fpt) (fk : Fb) (f : Fo) : Fs := sO f fun d s => match p s with
  | .ok x => match fk s with
    | .ok kd => setItems s x.1 x.2.1 kd d x.2.2
    | .err c => .err c s
    | .stuck => .stuck
  | .err c => .err c s
  | .stuck => .stuck
def rSetU : V → V → V → Hp → (Hp → Prop) → Prop := fun o i v H Q => rSetL o i v H Q ∨ ∃ a H', o = .ref a ∧ DPut H a i v H' ∧ Q H'
theorem set_any (hu : X.A.units + 1 < cLine) : PSet X rSetU := by
  intro pins s σ H o i v ov iv u Q I ro ri rv h
  rcases h with h | ⟨a, H', rfl, g, q⟩
  · exact set_list pins s σ H o i v ov iv u Q I ro ri rv h
  · obtain rfl : ov = Value.ref a := ro
    exact d_setItem hu I g ri rv fun s' I' => ⟨H', I', q⟩
theorem rpl_set {C : Ct} {R : Addr → Prop} {H : Hp} : ∀ {ds : List D} {vs : List V} {S : List Addr} {j : Nat} {d : D} {v : V} {T : List Addr}, j < ds.length → RpL C R H ds vs S → Rp C R H d v T → ∃ S2 L, RpL C R H (ds.set j d) (vs.set j v) S2 ∧ S2.Perm (L ++ T) ∧ L.Sublist S
  | [], vs, S, j, d, v, T, hj, h, r => absurd hj (by simp)
  | e :: ds, vs, S, 0, d, v, T, hj, h, r => by
    unfold RpL at h
    obtain ⟨w, vs', S1, S2, e1, e2, h1, h2⟩ := h
    subst e1 e2
    exact ⟨T ++ S2, S2, RpL.cons r h2, List.perm_append_comm, List.sublist_append_right _ _⟩
  | e :: ds, vs, S, j + 1, d, v, T, hj, h, r => by
    unfold RpL at h
    obtain ⟨w, vs', S1, S2, e1, e2, h1, h2⟩ := h
    subst e1 e2
    obtain ⟨S3, L, q1, q2, q3⟩ := rpl_set (j := j) (by simpa using hj) h2 r
    refine ⟨S1 ++ S3, S1 ++ L, RpL.cons h1 q1, ?_, List.Sublist.append (List.Sublist.refl _) q3⟩
    rw [List.append_assoc]
    exact List.Perm.append_left S1 q2
theorem putK_zip {k : Key} {v : V} : ∀ {ks : List Key} {vs : List V}, ks.length = vs.length → ks.Nodup →
    (∀ j, idxK k ks = some j → putK (ks.zip vs) k v = ks.zip (vs.set j v)) ∧ (idxK k ks = none → putK (ks.zip vs) k v = (ks ++ [k]).zip (vs ++ [v])) := by
  intro ks vs hl nd
  have hany : ∀ {ks : List Key} {vs : List V}, ks.length = vs.length → ((ks.zip vs).any fun kv => decide (kv.1 = k)) = (idxK k ks).isSome := by
    intro ks
    induction ks with
    | nil => intro vs _; rw [List.zip_nil_left]; rfl
    | cons k' ks ih =>
      intro vs hl
      cases vs with
      | nil => cases hl
      | cons v' vs =>
        rw [List.zip_cons_cons, List.any_cons, ih (by simpa using hl)]
        rw [idxK]
        by_cases e : k' = k
        · simp [e]
        · simp [e]
  have hmap : ∀ {ks : List Key} {vs : List V} {j : Nat}, ks.length = vs.length → ks.Nodup → idxK k ks = some j → (ks.zip vs).map (fun kv => if kv.1 = k then (kv.1, v) else kv) = ks.zip (vs.set j v) := by
    intro ks
    induction ks with
    | nil => intro vs j _ _ h; cases h
    | cons k' ks ih =>
      intro vs j hl nd h
      cases vs with
      | nil => cases hl
      | cons v' vs =>
        unfold idxK at h
        have nc := List.nodup_cons.mp nd
        rw [List.zip_cons_cons, List.map_cons]
        by_cases e : k' = k
        · rw [if_pos e] at h
          cases h
          rw [if_pos e, List.set_cons_zero, List.zip_cons_cons]
          congr 1
          have same : ∀ p ∈ ks.zip vs, (if p.1 = k then (p.1, v) else p) = p := fun p hp => by
            have hm : p.1 ∈ ks := (List.of_mem_zip hp).1
            rw [if_neg (fun z => nc.1 (by rw [e, ← z]; exact hm))]
          have : ∀ l : List (Key × V), (∀ p ∈ l, (if p.1 = k then (p.1, v) else p) = p) → l.map (fun kv => if kv.1 = k then (kv.1, v) else kv) = l := fun l => by
            induction l with
            | nil => intro _; rfl
            | cons p l ih =>
              intro h
              rw [List.map_cons, h p (by simp), ih fun q hq => h q (List.mem_cons_of_mem _ hq)]
          exact this _ same
        · rw [if_neg e] at h
          obtain ⟨m, h1, h2⟩ := Option.map_eq_some_iff.mp h
          subst h2
          rw [if_neg e, List.set_cons_succ, List.zip_cons_cons, ih (by simpa using hl) nc.2 h1]
  unfold putK
  refine ⟨fun j hj => ?_, fun hj => ?_⟩
  · rw [if_pos (by rw [hany hl, hj]; rfl)]
    exact hmap hl nd hj
  · rw [if_neg (by rw [hany hl, hj]; simp), List.zip_append hl]
    rfl
theorem idxK_none {k : Key} : ∀ {ks : List Key}, idxK k ks = none → k ∉ ks
  | [], _ => by simp
  | k' :: ks, h => by
    unfold idxK at h
    by_cases e : k' = k
    · rw [if_pos e] at h; cases h
    · rw [if_neg e] at h
      have h2 : idxK k ks = none := by simpa using h
      simp only [List.mem_cons, not_or]
      exact ⟨fun z => e z.symm, idxK_none h2⟩
theorem idxK_lt {k : Key} {ks : List Key} {j : Nat} (h : idxK k ks = some j) : j < ks.length := by
  have := (idxK_get h).1
  exact (List.getElem?_eq_some_iff.mp this).1
/-- an item is written -/
theorem put_read {σ : L2.St} {H H1 H2 : Hp} {Dn : Ends} {s : Slots} {R0 R : Addr → Prop} {S0 S T : List Addr} {i : Nat} {π : List Nat} {kd d node : D} {v x kv : V} {T2 : List Addr} {C : Ct} (rel : Rel C W R H1 s σ S) (fr : Fr R0 S0 H R (S ++ T) H1) (k2 : Same H1 H2) (rd : Rp C R H1 d v T) (nT : T.Nodup) (dT : ∀ a ∈ T, a ∉ S ∧ ¬ R a)
    (L : Lens C R H2 s σ S i π node x) (rk : Rp C R H2 kd kv T2) (q : PostS C W R0 S0 H Dn (setItems s i π kd d node)) : rSetU x kv v H2 fun H3 => Dn.nx σ H3 := by
  have rel2 := rel.same k2
  have rd2 := rd.same rel.dom k2
  have fr2 : Fr R0 S0 H R (S ++ T) H2 := fr.trans (Fr.same k2 fun a ha => .inl ha)
  have lS : ∀ {l : Addr} {node : D}, Lens C R H2 s σ S i π node (.ref l) → (∀ Sd, Rp C R H2 node (.ref l) Sd → l ∈ Sd) → l ∉ T := fun {l node} L h z => by
    obtain ⟨_, _, _, _, _, Sd, Sr, r, p, _⟩ := L
    exact (dT l z).1 (p.mem_iff.mpr (List.mem_append_left _ (h Sd r)))
  have setL : ∀ {j : Nat} {ds : List D} {vs : List V}, j < ds.length → ∀ S', RpL C R H2 ds vs S' → S'.Nodup → (∀ a ∈ S', a ∉ T) → ∃ S2, RpL C R H2 (ds.set j d) (vs.set j v) S2 ∧ S2.Nodup ∧ ∀ a ∈ S2, a ∈ S' ∨ a ∈ T := fun {j ds vs} hj S' rl nd dj => by
    obtain ⟨S2, Lq, q1, q2, q3⟩ := rpl_set (d := d) (v := v) (T := T) hj rl rd2
    refine ⟨S2, q1, q2.nodup_iff.mpr (List.nodup_append.mpr ⟨nd.sublist q3, nT, fun a ha b hb e => ?_⟩), fun a ha => (List.mem_append.mp (q2.mem_iff.mp ha)).imp (fun z => q3.subset z) id⟩
    subst e
    exact dj a (q3.subset ha) hb
  cases node with
  | nd k m ds =>
    cases k with
    | lst =>
      cases m with
      | true =>
        cases kd with
        | int z =>
          unfold setItems at q
          cases e : ixN ds.length z with
          | none => simp only [e] at q; exact q.elim
          | some j =>
            simp only [e] at q
            obtain ⟨l, vs, S', rfl, hv, rl⟩ := Lens.lst L
            have hj := (ixN_seq e).2.1
            refine .inl ⟨l, vs, z, j, rfl, rk.1, hv, by rw [← rl.length]; exact e, ?_⟩
            obtain ⟨S2, r2, f2⟩ := store_lst (es := ds.set j d) (ws := vs.set j v) rel2 L (Same.refl H2) hv dT (lS L fun Sd r => by
              obtain ⟨a, vs', S', e, _, _, e2⟩ := rp_lstO r
              cases e; rw [e2]; simp) (setL hj)
            exact q σ _ R S2 r2 (fr2.trans f2)
        | non => exact q.elim
        | bl _ => exact q.elim
        | str _ => exact q.elim
        | nd _ _ _ => exact q.elim
      | false => exact q.elim
    | dct ks =>
      cases m with
      | true =>
        unfold setItems at q
        cases e : keyD kd with
        | none => simp only [e] at q; exact q.elim
        | some key =>
          simp only [e] at q
          obtain ⟨l, vs, S', rfl, hl, hn, hv, rl⟩ := Lens.dct L
          have hlT : l ∉ T := lS L fun Sd r => by
            unfold Rp at r
            obtain ⟨a, vs', S', e, c, rl⟩ := r
            cases e
            rw [c.2.2]; simp
          have pz := putK_zip (k := key) (v := v) hl hn
          have lz : (ks.zip vs).length = ks.length := by rw [List.length_zip, ← hl, Nat.min_self]
          rw [rk.key e]
          cases e2 : idxK key ks with
          | some j =>
            simp only [e2] at q
            by_cases hs : ks.length < sizeLine
            · rw [if_pos hs] at q
              have hj : j < ds.length := by rw [rl.length, ← hl]; exact idxK_lt e2
              obtain ⟨S2, r2, f2⟩ := store_dct (ks' := ks) (es := ds.set j d) (ws := vs.set j v) rel2 L (Same.refl H2) hl hv dT hlT (by rw [List.length_set]; exact hl) hn (setL hj)
              refine .inr ⟨l, _, rfl, DPut.k hv (by rw [lz]; exact hs), ?_⟩
              rw [pz.1 j e2]
              exact q σ _ R S2 r2 (fr2.trans f2)
            · rw [if_neg hs] at q; exact q.elim
          | none =>
            simp only [e2] at q
            by_cases hs : ks.length < sizeLine
            · rw [if_pos hs] at q
              obtain ⟨S2, r2, f2⟩ := store_dct (ks' := ks ++ [key]) (es := ds ++ [d]) (ws := vs ++ [v]) rel2 L (Same.refl H2) hl hv dT hlT (by rw [List.length_append, List.length_append, hl]; rfl)
                (List.nodup_append.mpr ⟨hn, by simp, fun a ha b hb e' => by
                  have hb' : b = key := by simpa using hb
                  rw [e', hb'] at ha
                  exact idxK_none e2 ha⟩) fun S' rl' nd' dj' => by
                  have one : RpL C R H2 [d] [v] (T ++ []) := RpL.cons rd2 RpL.nil
                  rw [List.append_nil] at one
                  refine ⟨S' ++ T, rl'.append one, List.nodup_append.mpr ⟨nd', nT, fun a ha b hb e => ?_⟩, fun a ha => List.mem_append.mp ha⟩
                  subst e
                  exact dj' a ha hb
              refine .inr ⟨l, _, rfl, DPut.k hv (by rw [lz]; exact hs), ?_⟩
              rw [pz.2 e2]
              exact q σ _ R S2 r2 (fr2.trans f2)
            · rw [if_neg hs] at q; exact q.elim
      | false => exact q.elim
    | tup => exact q.elim
    | ins _ _ => exact q.elim
  | non => exact q.elim
  | bl _ => exact q.elim
  | int _ => exact q.elim
  | str _ => exact q.elim
theorem psd_put {o ix value : Expr} {p : Fpt} {fk : Fb} {f : Fo} {tpos : Pos} (hu : X.A.units + 1 < cLine) (ho : PPt X W o p) (hi : PB X W ix fk) (hv : PO X W value f)
    (ha : ∀ v, assign (.Subscript o ix tpos) X.env v = (do
      let ov ← holding [v] (eval o X.env)
      let iv ← holding [v, ov] (eval ix X.env)
      standAt tpos
      holding [v, ov, iv] (setItem ov iv v)
      release [v, ov, iv] []) := by intro _; rfl)
    (hs : swapsWithSole [.Subscript o ix tpos] value pos.line X.env = pure false := by rfl) (hw : swappedStores [.Subscript o ix tpos] value X.env = pure none := by rfl) (h1 : (assignEach [.Subscript o ix tpos] X.env).map (·.2) = [assign (.Subscript o ix tpos) X.env] := by rfl) :
    PSd X W (.Assign [.Subscript o ix tpos] value pos) (sPut p fk f) := by
  refine ps_imp (ps_asg hv (pg_sub ho hi (set_any hu) ha) hs hw h1) fun D σ H h => tO_seq h fun d s' v R S H0 H' R' S' T q rel r n dj fr => ?_
  refine ⟨s', R', S', rel, ?_⟩
  cases e1 : p s' with
  | ok x =>
    simp only [e1] at q
    intro x' H1 k1 L
    refine ⟨s', R', S', rel.same k1, ?_⟩
    cases e2 : fk s' with
    | ok kd =>
      simp only [e2] at q
      intro kv H2 T2 k2 rk
      exact put_read rel fr (k1.trans k2) r n dj (L.same (rel.same k1) k2) rk q
    | err c =>
      simp only [e2] at q
      exact fun H2 cl k2 hc => q σ H2 R' S' cl (rel.same (k1.trans k2)) (fr.trans (Fr.same (k1.trans k2) fun a ha => .inl (List.mem_append_left _ ha))) hc
    | stuck => simp only [e2] at q; exact q
  | err c =>
    simp only [e1] at q
    exact fun H2 cl k2 hc => q σ H2 R' S' cl (rel.same k2) (fr.trans (Fr.same k2 fun a ha => .inl (List.mem_append_left _ ha))) hc
  | stuck => simp only [e1] at q; exact q
/-! d.clear() -/
def sClrD (p : Fpt) : Fs := fun s => match p s with
  | .ok (i, π, .nd (.dct _) true _) => .nx (putAt s i π (.nd (.dct []) true []))
  | .err c => .err c s
  | _ => .stuck
theorem psd_clrD {o : Expr} {p : Fpt} {apos cpos : Pos} (ho : PPt X W o p) (hbase : attributeBase o "clear" X.env (eval o X.env) = eval o X.env := by rfl) (hline : (apos.endLine == cpos.line) = true := by rfl)
    (hs : swapsWith (.Call (.Attribute o "clear" apos) [] [] cpos) none pos.line X.env = pure false := by rfl) : PSd X W (.Expr (.Call (.Attribute o "clear" apos) [] [] cpos) pos) (sClrD p) := by
  refine ps_imp (ps_expr (pe_dclear ho hbase hline) hs) fun D σ H h => ?_
  obtain ⟨s, R, S, rel, q⟩ := h
  refine ⟨s, R, S, rel, ?_⟩
  unfold sClrD at q
  cases e : p s with
  | ok x =>
    rw [e] at q
    intro v H' sm L
    obtain ⟨i, π, d⟩ := x
    cases d with
    | nd kd m ds =>
      cases kd with
      | dct ks =>
        cases m with
        | true =>
          obtain ⟨l, vs, S', rfl, hl, hn, hv, rl⟩ := Lens.dct L
          refine ⟨.inr (.inr (.inl ⟨rfl, .inl ⟨_, hv⟩⟩)), l, _, rfl, rfl, hv, ?_⟩
          obtain ⟨S2, r2, f2⟩ := store_dct (T := []) (ks' := []) (es := []) (ws := []) (rel.same sm) L (Same.refl H') hl hv (by simp) (by simp) rfl List.nodup_nil fun S' rl' nd' dj' => ⟨[], RpL.nil, List.nodup_nil, by simp⟩
          exact q σ _ R S2 r2 ((Fr.same sm fun a ha => .inl ha).trans (f2.fresh (by simp)))
        | false => exact q.elim
      | tup => exact q.elim
      | lst => exact q.elim
      | ins _ _ => exact q.elim
    | non => exact q.elim
    | bl _ => exact q.elim
    | int _ => exact q.elim
    | str _ => exact q.elim
  | err c => rw [e] at q; exact fun H' cl sm hc => q σ H' R S cl (rel.same sm) (Fr.same sm fun a ha => .inl ha) hc
  | stuck => rw [e] at q; exact q
end
end VL
/-! # VL12: instances -/
namespace VL
open PySem PySem.Spec PyProof.Rows L2
/-- a class of the text, and one of its fields -/
structure ClF (K : PySem.W.Frag) (mg : Str → Option Value) (c f : Str) : Prop where
  ex : ∃ cl, mg c = some (.ref cl) ∧ Cls K cl ∧ NoAttr K cl f
def idxF (f : Str) : List Str → Option Nat
  | [] => none
  | f' :: fs => if f' = f then some 0 else (idxF f fs).map (· + 1)
def gFld (c f : Str) : D → Option D
  | .nd (.ins c' fs) _ ds => if c' = c then (idxF f fs).bind fun j => ds[j]? else none
  | _ => none
def bFld (c f : Str) (e : Fb) : Fb := fun s => (e s).bind fun d => Rb.of (gFld c f d)
theorem lookF {f : Str} : ∀ {fs : List Str} {vs : List V}, fs.length = vs.length → (∀ j v, idxF f fs = some j → vs[j]? = some v → (fs.zip vs).lookup f = some v) ∧ (idxF f fs = none → (fs.zip vs).lookup f = none)
  | [], vs, _ => ⟨fun j v h => (by cases h), fun _ => (by rw [List.zip_nil_left]; rfl)⟩
  | f' :: fs, [], h => by cases h
  | f' :: fs, v' :: vs, hl => by
    have ih := lookF (f := f) (fs := fs) (vs := vs) (by simpa using hl)
    rw [List.zip_cons_cons]
    by_cases e : f' = f
    · have eb : (f == f') = true := by rw [e]; exact beq_self_eq_true f
      refine ⟨fun j v h hv => ?_, fun h => ?_⟩
      · unfold idxF at h
        rw [if_pos e] at h
        cases h
        rw [List.lookup_cons, eb]
        exact hv
      · unfold idxF at h
        rw [if_pos e] at h
        cases h
    · have eb : (f == f') = false := by
        rw [beq_eq_false_iff_ne]
        exact fun z => e z.symm
      refine ⟨fun j v h hv => ?_, fun h => ?_⟩
      · unfold idxF at h
        rw [if_neg e] at h
        obtain ⟨m, h1, h2⟩ := Option.map_eq_some_iff.mp h
        subst h2
        rw [List.lookup_cons, eb]
        exact ih.1 m v h1 (by simpa using hv)
      · unfold idxF at h
        rw [if_neg e] at h
        rw [List.lookup_cons, eb]
        exact ih.2 (by simpa using h)
theorem rp_ins {C : Ct} {R : Addr → Prop} {H : Hp} {c : Str} {fs : List Str} {m : Bool} {ds : List D} {v : V} {S : List Addr} (h : Rp C R H (.nd (.ins c fs) m ds) v S) :
    ∃ a cl dx vs S', v = .ref a ∧ C.mg c = some (.ref cl) ∧ fs.length = vs.length ∧ H a = some (.ins cl dx (fs.zip vs)) ∧ RpL C R H ds vs S' := by
  unfold Rp at h
  obtain ⟨a, vs, S', e, c', r⟩ := h
  cases m with
  | true =>
    obtain ⟨⟨cl, dx, h0, h1, h2⟩, _⟩ := c'
    exact ⟨a, cl, dx, vs, S', e, h0, h1, h2, r⟩
  | false =>
    obtain ⟨⟨cl, dx, h0, h1, h2⟩, _⟩ := c'
    exact ⟨a, cl, dx, vs, S', e, h0, h1, h2, r⟩
section
variable {X : Cx} {W : Wi} {pos : Pos}
theorem pb_fld {c f : Str} {e : Expr} {g : Fb} (he : PB X W e g) (T : ClF X.K X.mg c f) (hb : attributeBase e f X.env (eval e X.env) = eval e X.env := by rfl) : PB X W (.Attribute e f pos) (bFld c f g) := by
  obtain ⟨cl0, m0, kc, na⟩ := T.ex
  refine pe_imp (pe_fld he hb) fun σ H Q h => ?_
  obtain ⟨s, R, S, rel, p⟩ := h
  refine tB_seq rel p (fun c h => h) (fun h => h) fun d v H1 T1 e1 p2 k1 r1 => ?_
  clear p
  cases z : gFld c f d with
  | none => rw [z] at p2; exact p2.elim
  | some d' =>
    rw [z] at p2
    unfold gFld at z
    split at z
    · rename_i c' fs m ds
      split at z
      · rename_i ec
        subst ec
        obtain ⟨j, z1, z2⟩ := Option.bind_eq_some_iff.mp z
        obtain ⟨a, cl, dx, vs, S', rfl, hm, hl, ha, ra⟩ := rp_ins r1
        have e2 : cl0 = cl := by
          have := m0.symm.trans hm
          cases this
          rfl
        subst e2
        obtain ⟨w, T2, hw, rw'⟩ := ra.get z2
        exact ⟨a, cl0, dx, _, w, rfl, ha, kc, na, (lookF hl).1 j w z1 hw, p2 w H1 T2 k1 rw'⟩
      · cases z
    · cases z
/-- the place of a field -/
def pFld (p : Fpt) (c f : Str) : Fpt := fun s => (p s).bind fun x => match x.2.2 with
  | .nd (.ins c' fs) _ ds => if c' = c then (match idxF f fs with
    | some n => match ds[n]? with
      | some d => .ok (x.1, x.2.1 ++ [n], d)
      | none => .stuck
    | none => .stuck) else .stuck
  | _ => .stuck
theorem pth_fld {c f : Str} {e : Expr} {p : Fpt} (he : PPt X W e p) (T : ClF X.K X.mg c f) (hb : attributeBase e f X.env (eval e X.env) = eval e X.env := by rfl) : PPt X W (.Attribute e f pos) (pFld p c f) := by
  obtain ⟨cl0, m0, kc, na⟩ := T.ex
  refine pe_imp (pe_fld he hb) fun σ H Q h => ?_
  obtain ⟨s, R, S, rel, q⟩ := h
  refine tPt_seq (P := PostPt (ct X) W R S s σ H Q) rel q (fun c h => h) (fun h => h) fun x v H1 e1 q1 k1 L1 => ?_
  obtain ⟨i, π, d⟩ := x
  have rel1 := rel.same k1
  cases d with
  | nd k m ds =>
    cases k with
    | ins c' fs =>
      change PostPt (ct X) W R S s σ H Q (if c' = c then _ else _) at q1
      by_cases ec : c' = c
      · rw [if_pos ec] at q1
        subst ec
        cases e2 : idxF f fs with
        | none => simp only [e2] at q1; exact q1.elim
        | some n =>
          simp only [e2] at q1
          cases e3 : ds[n]? with
          | none => simp only [e3] at q1; exact q1.elim
          | some dn =>
            simp only [e3] at q1
            obtain ⟨a, vs, S', rfl, ⟨Sd, cell⟩, rl, w, hw, Lc⟩ := Lens.child rel1.nd L1 e3
            have hc : ∃ cl dx, X.mg c' = some (.ref cl) ∧ fs.length = vs.length ∧ H1 a = some (.ins cl dx (fs.zip vs)) := by
              cases m with
              | true => exact cell.1
              | false => exact cell.1
            obtain ⟨cl, dx, hm, hl, ha⟩ := hc
            have e2' : cl0 = cl := by
              have := m0.symm.trans hm
              cases this
              rfl
            subst e2'
            exact ⟨a, cl0, dx, _, w, rfl, ha, kc, na, (lookF hl).1 n w e2 hw, q1 w H1 k1 Lc⟩
      · rw [if_neg ec] at q1; exact q1.elim
    | tup => exact q1.elim
    | lst => exact q1.elim
    | dct _ => exact q1.elim
  | non => exact q1.elim
  | bl _ => exact q1.elim
  | int _ => exact q1.elim
  | str _ => exact q1.elim
/-- p.f = e -/
def setFld (s : Slots) (i : Nat) (π : List Nat) (c f : Str) (d : D) : D → Out
  | .nd (.ins c' fs) true ds => if c' = c ∧ fs.length < 1000 then (match idxF f fs with
    | some j => .nx (putAt s i π (.nd (.ins c fs) true (ds.set j d)))
    | none => .nx (putAt s i π (.nd (.ins c (fs ++ [f])) true (ds ++ [d])))) else .stuck
  | _ => .stuck
def sFldP (p : Fpt) (c f : Str) (g : Fo) : Fs := sO g fun d s => match p s with
  | .ok x => setFld s x.1 x.2.1 c f d x.2.2
  | .err c => .err c s
  | .stuck => .stuck
theorem putF_zip {f : Str} {v : V} : ∀ {fs : List Str} {vs : List V}, fs.length = vs.length → (∀ j, idxF f fs = some j → putF f v (fs.zip vs) = fs.zip (vs.set j v)) ∧ (idxF f fs = none → putF f v (fs.zip vs) = (fs ++ [f]).zip (vs ++ [v]))
  | [], [], _ => ⟨fun j h => (by cases h), fun _ => rfl⟩
  | [], _ :: _, h => by cases h
  | f' :: fs, [], h => by cases h
  | f' :: fs, v' :: vs, hl => by
    have ih := putF_zip (f := f) (v := v) (fs := fs) (vs := vs) (by simpa using hl)
    rw [List.zip_cons_cons]
    have step : putF f v ((f', v') :: fs.zip vs) = if f' = f then (f', v) :: fs.zip vs else (f', v') :: putF f v (fs.zip vs) := by
      by_cases e : f' = f
      · subst e; simp [putF]
      · simp [putF, e]
    by_cases e : f' = f
    · refine ⟨fun j h => ?_, fun h => ?_⟩
      · unfold idxF at h
        rw [if_pos e] at h
        cases h
        rw [step, if_pos e]
        rfl
      · unfold idxF at h
        rw [if_pos e] at h
        cases h
    · refine ⟨fun j h => ?_, fun h => ?_⟩
      · unfold idxF at h
        rw [if_neg e] at h
        obtain ⟨m, h1, h2⟩ := Option.map_eq_some_iff.mp h
        subst h2
        rw [step, if_neg e, ih.1 m h1]
        rfl
      · unfold idxF at h
        rw [if_neg e] at h
        rw [step, if_neg e, ih.2 (by simpa using h)]
        rfl
theorem Lens.ins {C : Ct} {R : Addr → Prop} {H : Hp} {s : Slots} {σ : L2.St} {S : List Addr} {i : Nat} {π : List Nat} {c : Str} {fs : List Str} {ds : List D} {v : V} (L : Lens C R H s σ S i π (.nd (.ins c fs) true ds) v) :
    ∃ l cl dx vs S', v = .ref l ∧ C.mg c = some (.ref cl) ∧ fs.length = vs.length ∧ H l = some (.ins cl dx (fs.zip vs)) ∧ RpL C R H ds vs S' := by
  obtain ⟨Sd, r⟩ := L.rp
  exact rp_ins r
/-- an instance is written -/
theorem store_ins {C : Ct} {R : Addr → Prop} {H H2 : Hp} {s : Slots} {σ : L2.St} {S T : List Addr} {i : Nat} {π : List Nat} {c : Str} {cl dx : Addr} {fs fs' : List Str} {ds es : List D} {l : Addr} {vs ws : List V} (rel : Rel C W R H s σ S) (L : Lens C R H s σ S i π (.nd (.ins c fs) true ds) (.ref l)) (k : Same H H2)
    (hm : C.mg c = some (.ref cl)) (hl : fs.length = vs.length) (hv : H l = some (.ins cl dx (fs.zip vs)))
    (hT : ∀ a ∈ T, a ∉ S ∧ ¬ R a) (hlT : l ∉ T) (hl' : fs'.length = ws.length) (re : ∀ S', RpL C R H2 ds vs S' → S'.Nodup → (∀ a ∈ S', a ∉ T) → ∃ S2, RpL C R H2 es ws S2 ∧ S2.Nodup ∧ ∀ a ∈ S2, a ∈ S' ∨ a ∈ T) :
    ∃ S2, Rel C W R (upd H2 l (.ins cl dx (fs'.zip ws))) (putAt s i π (.nd (.ins c fs') true es)) σ S2 ∧ Fr R (S ++ T) H R S2 (upd H2 l (.ins cl dx (fs'.zip ws))) := by
  have unz : ∀ {a b : List V}, fs.length = a.length → fs.length = b.length → fs.zip a = fs.zip b → a = b := fun {a b} h1 h2 e => by
    have := congrArg (List.map Prod.snd) e
    rwa [List.map_snd_zip (by omega), List.map_snd_zip (by omega)] at this
  refine L.store rel k hT (fun Sd r => ?_) fun Sd r nd dj off => ?_
  · unfold Rp at r
    obtain ⟨a, vs', S', e, c, rl⟩ := r
    cases e
    rw [c.2]; simp
  · unfold Rp at r
    obtain ⟨a, vs', S', e, c', rl⟩ := r
    cases e
    obtain ⟨⟨cl2, dx2, h0, h1, h2⟩, e2⟩ := c'
    rw [hv] at h2
    obtain ⟨_, _, ez⟩ := HO.ins.inj (Option.some.inj h2)
    have ev : vs = vs' := unz hl h1 ez
    subst ev
    subst e2
    have na := List.nodup_cons.mp nd
    obtain ⟨S2, q1, q2, q3⟩ := re S' (rl.same rel.dom k) na.2 fun a ha => dj a (List.mem_cons_of_mem _ ha)
    have nl : l ∉ S2 := fun z => (q3 l z).elim na.1 hlT
    refine ⟨l :: S2, ?_, List.nodup_cons.mpr ⟨nl, q2⟩, fun a ha => ?_⟩
    · unfold Rp
      exact ⟨l, ws, S2, rfl, ⟨⟨cl, dx, hm, hl', upd_same⟩, rfl⟩, q1.upd nl (off l (by simp)) (noTup_same k (.inr (.inr ⟨_, _, _, hv⟩)))⟩
    · rcases List.mem_cons.mp ha with rfl | ha
      · exact .inl (by simp)
      · exact (q3 a ha).imp (List.mem_cons_of_mem _) id
theorem idxF_lt {f : Str} : ∀ {fs : List Str} {j : Nat}, idxF f fs = some j → j < fs.length
  | [], j, h => by cases h
  | f' :: fs, j, h => by
    unfold idxF at h
    by_cases e : f' = f
    · rw [if_pos e] at h; cases h; simp
    · rw [if_neg e] at h
      obtain ⟨m, h1, h2⟩ := Option.map_eq_some_iff.mp h
      subst h2
      have := idxF_lt h1
      simpa using this
theorem psd_fld {c f : Str} {o value : Expr} {p : Fpt} {g : Fo} {pos' : Pos} (ho : PPt X W o p) (TC : ClF X.K X.mg c f) (hv : PO X W value g) (hs : swapsWith value (some (.Attribute o f pos')) pos.line X.env = pure false := by rfl) :
    PSd X W (.Assign [.Attribute o f pos'] value pos) (sFldP p c f g) := by
  obtain ⟨cl0, m0, kc, na⟩ := TC.ex
  refine ps_imp (ps_fld ho hv hs) fun D σ H h => tO_seq h fun d s' v R S H0 H' R' S' T q rel r n dj fr => ?_
  refine ⟨s', R', S', rel, ?_⟩
  cases e1 : p s' with
  | ok x =>
    simp only [e1] at q
    intro x' H1 k1 L
    have rel1 := rel.same k1
    have r1 := r.same rel.dom k1
    have fr1 : Fr R S H0 R' (S' ++ T) H1 := fr.trans (Fr.same k1 fun a ha => .inl ha)
    obtain ⟨i, π, node⟩ := x
    cases node with
    | nd k m ds =>
      cases k with
      | ins c' fs =>
        cases m with
        | true =>
          unfold setFld at q
          by_cases hc : c' = c ∧ fs.length < 1000
          · obtain ⟨ec, hlen⟩ := hc
            subst ec
            simp only [hlen, and_self, if_true] at q
            obtain ⟨l, cl, dx, vs, S'', rfl, hm, hl, hh, rl⟩ := Lens.ins L
            have e2' : cl0 = cl := by
              have := m0.symm.trans hm
              cases this
              rfl
            subst e2'
            have hlT : l ∉ T := fun z => by
              obtain ⟨_, _, _, _, _, Sd, Sr, rr, pp, _⟩ := L
              have : l ∈ Sd := by
                unfold Rp at rr
                obtain ⟨a, vs', S3, e, c3, _⟩ := rr
                cases e
                rw [c3.2]; simp
              exact (dj l z).1 (pp.mem_iff.mpr (List.mem_append_left _ this))
            have pz := putF_zip (f := f) (v := v) hl
            refine ⟨l, cl0, dx, _, rfl, hh, kc, na, ?_, ?_⟩
            · rw [List.length_zip, ← hl, Nat.min_self]; exact hlen
            · cases e2 : idxF f fs with
              | some j =>
                simp only [e2] at q
                rw [pz.1 j e2]
                have hj : j < ds.length := by rw [rl.length, ← hl]; exact idxF_lt e2
                obtain ⟨S2, r2, f2⟩ := store_ins (fs' := fs) (es := ds.set j d) (ws := vs.set j v) rel1 L (Same.refl H1) hm hl hh dj hlT (by rw [List.length_set]; exact hl) fun S4 rl4 nd4 dj4 => by
                  obtain ⟨S2, Lq, q1, q2, q3⟩ := rpl_set (d := d) (v := v) (T := T) hj rl4 r1
                  refine ⟨S2, q1, q2.nodup_iff.mpr (List.nodup_append.mpr ⟨nd4.sublist q3, n, fun a ha b hb e => ?_⟩), fun a ha => (List.mem_append.mp (q2.mem_iff.mp ha)).imp (fun z => q3.subset z) id⟩
                  subst e
                  exact dj4 a (q3.subset ha) hb
                exact q σ _ R' S2 r2 (fr1.trans f2)
              | none =>
                simp only [e2] at q
                rw [pz.2 e2]
                obtain ⟨S2, r2, f2⟩ := store_ins (fs' := fs ++ [f]) (es := ds ++ [d]) (ws := vs ++ [v]) rel1 L (Same.refl H1) hm hl hh dj hlT (by rw [List.length_append, List.length_append, hl]; rfl) fun S4 rl4 nd4 dj4 => by
                  have one : RpL (ct X) R' H1 [d] [v] (T ++ []) := RpL.cons r1 RpL.nil
                  rw [List.append_nil] at one
                  refine ⟨S4 ++ T, rl4.append one, List.nodup_append.mpr ⟨nd4, n, fun a ha b hb e => ?_⟩, fun a ha => List.mem_append.mp ha⟩
                  subst e
                  exact dj4 a ha hb
                exact q σ _ R' S2 r2 (fr1.trans f2)
          · simp only [hc, if_false] at q
            exact q.elim
        | false => exact q.elim
      | tup => exact q.elim
      | lst => exact q.elim
      | dct _ => exact q.elim
    | non => exact q.elim
    | bl _ => exact q.elim
    | int _ => exact q.elim
    | str _ => exact q.elim
  | err c =>
    simp only [e1] at q
    exact fun H2 cl k2 hc => q σ H2 R' S' cl (rel.same k2) (fr.trans (Fr.same k2 fun a ha => .inl (List.mem_append_left _ ha))) hc
  | stuck => simp only [e1] at q; exact q
end
end VL
/-! # VL13: methods -/
namespace VL
open PySem PySem.Spec PyProof.Rows L2
inductive Rm where
  | ok (d : D) (me : D) | err (c : Str) (me : D) | stuck
/-- a method that may change its object: what the mirror tells of the object and of the frozen arguments -/
def spM (C : Ct) (n : Nat) (m : List D → Rm) : Sp := fun vs H Q E => vs.length = n ∧ ∃ (R0 : Addr → Prop) (d0 : D) (v0 : V) (S0 : List Addr) (ds : List D) (rest : List V), vs = v0 :: rest ∧ (∀ a, R0 a → H a ≠ none) ∧ Rp C R0 H d0 v0 S0 ∧ S0.Nodup ∧ (∀ a ∈ S0, ¬ R0 a) ∧ RpL C R0 H ds rest [] ∧ (match m (d0 :: ds) with
  | .ok d me => ∀ v H' R' S' T, (∀ a, R' a → H' a ≠ none) → Rp C R' H' me v0 S' → Rp C R' H' d v T → (S' ++ T).Nodup → (∀ a ∈ S' ++ T, ¬ R' a) → Fr R0 S0 H R' (S' ++ T) H' → Q v H'
  | .err c me => ∀ H' R' S' cl, (∀ a, R' a → H' a ≠ none) → Rp C R' H' me v0 S' → S'.Nodup → (∀ a ∈ S', ¬ R' a) → Fr R0 S0 H R' S' H' → C.mg c = some (.ref cl) → E (.ref cl) none H'
  | .stuck => False)
def endM : Out → Rm
  | .nx s => match s[0]? with
    | some (some me) => .ok .non me
    | _ => .stuck
  | .ret d s => match s[0]? with
    | some (some me) => .ok d me
    | _ => .stuck
  | .err c s => match s[0]? with
    | some (some me) => .err c me
    | _ => .stuck
  | _ => .stuck
def fnM (N : Nat) (g : Fs) : List D → Rm := fun ds => endM (g (ds.map some ++ List.replicate (N - ds.length) none))
def WM (E : XK) (v0 : V) : Wi := ⟨fun cls d _ H => E cls d H, fun σ => σ[0]? = some (some v0)⟩
theorem keepsM {E : XK} {v0 : V} {is : List Nat} (h : 0 ∉ is) : Keeps (WM E v0) is := fun σ σ' k m => by
  show σ'[0]? = some (some v0)
  rw [k 0 h]
  exact m
theorem Fr.sub {R R' : Addr → Prop} {S S1 S2 : List Addr} {H H' : Hp} (f : Fr R S H R' S1 H') (h : ∀ a ∈ S2, a ∈ S1) : Fr R S H R' S2 H' := ⟨f.out, f.tup, f.rr, f.rn, fun a ha => f.sn a (h a ha), f.dm⟩
theorem bodyM_read {C : Ct} {n : Nat} {N : List Str} {g : Fs} {vs : List V} {H : Hp} {Q : VK} {E : XK} (h : spM C n (fnM N.length g) vs H Q E) :
    ∃ v0, tSt C (WM E v0) g { nx := fun _ H' => Q .non H', rt := Q } (L2.start N vs) H := by
  obtain ⟨hl, R0, d0, v0, S0, ds, rest, rfl, dm, r0, nd, off, rl, p⟩ := h
  refine ⟨v0, ?_⟩
  have el := rl.length
  have hs : L2.start N (v0 :: rest) = some v0 :: (rest.map some ++ List.replicate (N.length - (d0 :: ds).length) none) := by unfold L2.start; rw [List.length_cons, List.length_cons, el]; rfl
  rw [hs]
  refine ⟨some d0 :: (ds.map some ++ List.replicate (N.length - (d0 :: ds).length) none), R0, S0, ⟨⟨some v0, _, S0, [], rfl, by rw [List.append_nil], ⟨v0, rfl, r0⟩, rps_start rl⟩, nd, off, dm, rfl⟩, ?_⟩
  unfold fnM endM at p
  have take : ∀ {s' : Slots} {σ' : L2.St} {H' : Hp} {R' : Addr → Prop} {S' : List Addr} {me : D}, Rel C (WM E v0) R' H' s' σ' S' → s'[0]? = some (some me) → ∃ S1, Rp C R' H' me v0 S1 ∧ S1.Nodup ∧ ∀ a ∈ S1, a ∈ S' := fun {s' σ' H' R' S' me} rel e => by
    obtain ⟨v, S1, S2, q1, q2, q3, q4⟩ := rel.sl.take e
    have hv : σ'[0]? = some (some v0) := rel.me
    rw [hv] at q1
    cases q1
    exact ⟨S1, q2, (List.nodup_append.mp (q4.nodup_iff.mp rel.nd)).1, fun a ha => q4.mem_iff.mpr (List.mem_append_left _ ha)⟩
  cases e : g (some d0 :: (ds.map some ++ List.replicate (N.length - (d0 :: ds).length) none)) with
  | nx s' =>
    have e' : g ((d0 :: ds).map some ++ List.replicate (N.length - (d0 :: ds).length) none) = .nx s' := e
    rw [e'] at p
    cases e2 : s'[0]? with
    | none => simp only [e2] at p
    | some o =>
      cases o with
      | none => simp only [e2] at p
      | some me =>
        simp only [e2] at p
        intro σ' H' R' S' rel fr
        obtain ⟨S1, q1, q2, q3⟩ := take rel e2
        exact p .non H' R' S1 [] rel.dom q1 ⟨rfl, rfl⟩ (by rw [List.append_nil]; exact q2) (fun a ha => rel.off a (q3 a (by rwa [List.append_nil] at ha))) (fr.sub fun a ha => q3 a (by rwa [List.append_nil] at ha))
  | ret d s' =>
    have e' : g ((d0 :: ds).map some ++ List.replicate (N.length - (d0 :: ds).length) none) = .ret d s' := e
    rw [e'] at p
    cases e2 : s'[0]? with
    | none => simp only [e2] at p
    | some o =>
      cases o with
      | none => simp only [e2] at p
      | some me =>
        simp only [e2] at p
        intro v σ' H' R' S' T rel rd nT dj fr
        obtain ⟨S1, q1, q2, q3⟩ := take rel e2
        refine p v H' R' S1 T rel.dom q1 rd (List.nodup_append.mpr ⟨q2, nT, fun a ha b hb e => ?_⟩) (fun a ha => ?_) (fr.sub fun a ha => ?_)
        · subst e
          exact (dj a hb).1 (q3 a ha)
        · rcases List.mem_append.mp ha with z | z
          · exact rel.off a (q3 a z)
          · exact (dj a z).2
        · rcases List.mem_append.mp ha with z | z
          · exact List.mem_append_left _ (q3 a z)
          · exact List.mem_append_right _ z
  | err c s' =>
    have e' : g ((d0 :: ds).map some ++ List.replicate (N.length - (d0 :: ds).length) none) = .err c s' := e
    rw [e'] at p
    cases e2 : s'[0]? with
    | none => simp only [e2] at p
    | some o =>
      cases o with
      | none => simp only [e2] at p
      | some me =>
        simp only [e2] at p
        intro σ' H' R' S' cl rel fr hc
        obtain ⟨S1, q1, q2, q3⟩ := take rel e2
        exact p H' R' S1 cl rel.dom q1 q2 (fun a ha => rel.off a (q3 a ha)) (fr.sub q3) hc
  | brk s' =>
    have e' : g ((d0 :: ds).map some ++ List.replicate (N.length - (d0 :: ds).length) none) = .brk s' := e
    rw [e'] at p; exact p.elim
  | ct s' =>
    have e' : g ((d0 :: ds).map some ++ List.replicate (N.length - (d0 :: ds).length) none) = .ct s' := e
    rw [e'] at p; exact p.elim
  | stuck =>
    have e' : g ((d0 :: ds).map some ++ List.replicate (N.length - (d0 :: ds).length) none) = .stuck := e
    rw [e'] at p; exact p.elim
/-! ### a method's call -/
/-- what the text keeps of a method -/
def CalS (P : Program) (w : World) (K : PySem.W.Frag) (mg : Str → Option Value) (base : Heap) (k : Nat) (c mn : Str) (sp : Sp) : Prop :=
  ∃ cl f fd ps, mg c = some (.ref cl) ∧ Cls K cl ∧ Meth K cl mn f ∧ FnOk P w K mg base (L2.CX P w) k f fd ps sp ∧ Binds K fd ps []
abbrev CalM (P : Program) (w : World) (K : PySem.W.Frag) (mg : Str → Option Value) (base : Heap) (k : Nat) (c mn : Str) (n : Nat) (m : List D → Rm) : Prop := CalS P w K mg base k c mn (spM ⟨K, mg⟩ n m)
abbrev CalP (P : Program) (w : World) (K : PySem.W.Frag) (mg : Str → Option Value) (base : Heap) (k : Nat) (c mn : Str) (n : Nat) (m : List D → Rb D) : Prop := CalS P w K mg base k c mn (spD ⟨K, mg⟩ n m)
/-- C(..) -/
def CalN (P : Program) (w : World) (K : PySem.W.Frag) (mg : Str → Option Value) (base : Heap) (k : Nat) (c : Str) (n : Nat) (m : List D → Rm) : Prop :=
  ∃ cl f fd ps, mg c = some (.ref cl) ∧ Mk K cl f ∧ FnOk P w K mg base (L2.CX P w) k f fd ps (spM ⟨K, mg⟩ n m) ∧ Binds K fd ps []
def tMethS (C : Addr) (m : Str) (sp : Sp) (E : L2.St → XK) (ta : TE) (t : TA) : TE := fun σ H Q => ta σ H fun x H1 => ∃ a dx fs, x = .ref a ∧ H1 a = some (.ins C dx fs) ∧ fs.lookup m = none ∧
  t σ H1 fun vs H2 => sp (x :: vs) H2 Q (E σ)
section
variable {X : Cx} {W : Wi} {pos : Pos}
theorem pe_methS {CX : CXT} {k : Nat} {f C : Addr} {fd : FuncData} {ps : List Str} {sp : Sp} {E : L2.St → XK} {m : Str} {apos : Pos} {e o : Expr} {es : List Expr} {ta : TE} {t : TA} {pl : Sem Bool} (he : PE X o ta) (c : Cls X.K C) (hm : Meth X.K C m f) (F : FnOk X.prog X.w X.K X.mg X.base CX k f fd ps sp) (hr : Room k X.A) (hb : Binds X.K fd ps []) (hx : ∀ σ, PassesAt CX X σ (E σ)) (ha : PA X (e :: es) t)
    (hst : starEach (e :: es) X.env = (false, eval e X.env) :: starEach es X.env := by rfl) (hpl : (backTo pos (starEach es X.env)).any (·.1) = false := by rfl)
    (ht : eval (.Call (.Attribute o m apos) (e :: es) [] pos) X.env = (do
      let ov ← eval o X.env
      standAt apos.atName
      let (f, first) ← holding [ov] (getMethod ov m pl)
      callWith pos f first (backTo pos (starEach (e :: es) X.env)) (backToKw pos (keywordEach [] X.env))) := by rfl) :
    PE X (.Call (.Attribute o m apos) (e :: es) [] pos) (tMethS C m sp E ta t) := by
  refine ⟨fun pins s σ H Q I h => ?_⟩
  refine PySem.W.methodCall_KW (pl := pl) (thn (he.run pins s σ H _ I h) fun u s1 ⟨x, H1, I1, rx, a, dx, fs, ex, ea, l, q⟩ => ?_) ht
  subst ex
  obtain rfl : u = Value.ref a := rx
  refine getmeth_ok I1 ea c hm l ?_
  refine PySem.W.callWith_K (first := [.ref a]) (h₀ := X.base) I.ok.mod.kin hm.kp (thn (ha.run pos pins s1 σ H1 _ I1 q) fun us s2 ⟨vs, H2, I2, r, q2⟩ => ⟨I2.kIn, ?_⟩) hst hpl
  exact run_fnS (us := .ref a :: us) (vs := .ref a :: vs) F hr hb (hx σ) I2 (.cons rfl r) q2
theorem pe_meth0S {CX : CXT} {k : Nat} {f C : Addr} {fd : FuncData} {ps : List Str} {sp : Sp} {E : L2.St → XK} {m : Str} {apos : Pos} {o : Expr} {ta : TE} {pl : Sem Bool} (he : PE X o ta) (c : Cls X.K C) (hm : Meth X.K C m f) (F : FnOk X.prog X.w X.K X.mg X.base CX k f fd ps sp) (hr : Room k X.A) (hb : Binds X.K fd ps []) (hx : ∀ σ, PassesAt CX X σ (E σ))
    (ht : eval (.Call (.Attribute o m apos) [] [] pos) X.env = (do
      let ov ← eval o X.env
      standAt apos.atName
      let (f, first) ← holding [ov] (getMethod ov m pl)
      callWith pos f first (backTo pos (starEach [] X.env)) (backToKw pos (keywordEach [] X.env))) := by rfl) :
    PE X (.Call (.Attribute o m apos) [] [] pos) (tMethS C m sp E ta tNil) := by
  refine ⟨fun pins s σ H Q I h => ?_⟩
  refine PySem.W.methodCall_KW (pl := pl) (thn (he.run pins s σ H _ I h) fun u s1 ⟨x, H1, I1, rx, a, dx, fs, ex, ea, l, q⟩ => ?_) ht
  subst ex
  obtain rfl : u = Value.ref a := rx
  refine getmeth_ok I1 ea c hm l ?_
  exact PySem.W.callWith_K0 (first := [.ref a]) I1.kIn hm.kp (run_fnS (us := [.ref a]) (vs := [.ref a]) F hr hb (hx σ) I1 (.cons rfl .nil) q)
/-- o.m(..), the object changed -/
def oMeth (p : Fpt) (c mn : Str) (args : Slots → Rb (List D)) (m : List D → Rm) : Fo := fun s => match p s with
  | .ok (i, π, .nd (.ins c' fs) true ds) => if c' = c ∧ idxF mn fs = none then (match args s with
    | .ok as => if shrL as = true then (match m (.nd (.ins c' fs) true ds :: as) with
      | .ok d me => .ok d (putAt s i π me)
      | .err e me => .err e (putAt s i π me)
      | .stuck => .stuck) else .stuck
    | .err e => .err e s
    | .stuck => .stuck) else .stuck
  | .err e => .err e s
  | _ => .stuck
/-- the object behind the call -/
theorem meth_after {C : Ct} {R R' : Addr → Prop} {H H' : Hp} {s : Slots} {σ : L2.St} {S Sd Sr S' T : List Addr} {i : Nat} {π : List Nat} {me : D} {v0 : V} (rel : Rel C W R H s σ S) (p : S.Perm (Sd ++ Sr))
    (u : ∀ R2 H2 e Sn, Chg R H Sr R2 H2 → Rp C R2 H2 e v0 Sn → ∃ S2, RpS C R2 H2 (putAt s i π e) σ S2 ∧ S2.Perm (Sn ++ Sr)) (dm : ∀ a, R' a → H' a ≠ none) (r : Rp C R' H' me v0 S') (nd : (S' ++ T).Nodup) (off : ∀ a ∈ S' ++ T, ¬ R' a) (fr : Fr R Sd H R' (S' ++ T) H') :
    ∃ S2, Rel C W R' H' (putAt s i π me) σ S2 ∧ (∀ a ∈ T, a ∉ S2 ∧ ¬ R' a) ∧ Fr R S H R' (S2 ++ T) H' := by
  have na := List.nodup_append.mp (p.nodup_iff.mp rel.nd)
  have nb := List.nodup_append.mp nd
  have inD : ∀ a ∈ Sd, a ∈ S := fun a ha => p.mem_iff.mpr (List.mem_append_left _ ha)
  have inR : ∀ a ∈ Sr, a ∈ S := fun a ha => p.mem_iff.mpr (List.mem_append_right _ ha)
  have someR : ∀ a ∈ Sr, H a ≠ none := fun a ha => (rel.sl.owns a (inR a ha)).some
  have ch : Chg R H Sr R' H' := ⟨fun a ha => ⟨fr.rr a ha, fr.out a (rel.dom a ha) fun z => rel.off a (inD a z) ha⟩, fr.tup, fun a ha => fr.out a (someR a ha) fun z => na.2.2 a z a ha rfl⟩
  obtain ⟨S2, q1, q2⟩ := u R' H' me S' ch r
  have notSr : ∀ a ∈ S' ++ T, a ∉ Sr := fun a ha z => by
    rcases fr.sn a ha with w | w
    · exact na.2.2 a w a z rfl
    · exact someR a z w
  have m : ∀ a ∈ S2, a ∈ S' ∨ a ∈ Sr := fun a ha => List.mem_append.mp (q2.mem_iff.mp ha)
  refine ⟨S2, ⟨q1, ?_, fun a ha hr => ?_, dm, rel.me⟩, fun a ha => ⟨fun z => ?_, off a (List.mem_append_right _ ha)⟩, ⟨fun a ha hs => fr.out a ha fun z => hs (inD a z), fr.tup, fr.rr, fun a ha => (fr.rn a ha).imp id fun z => z.imp (inD a) id, fun a ha => ?_, fr.dm⟩⟩
  · refine q2.nodup_iff.mpr (List.nodup_append.mpr ⟨nb.1, na.2.1, fun a ha b hb e => ?_⟩)
    subst e
    exact notSr a (List.mem_append_left _ ha) hb
  · rcases m a ha with z | z
    · exact off a (List.mem_append_left _ z) hr
    · rcases fr.rn a hr with w | w | w
      · exact rel.off a (inR a z) w
      · exact na.2.2 a w a z rfl
      · exact someR a z w
  · rcases m a z with w | w
    · exact nb.2.2 a w a ha rfl
    · exact notSr a (List.mem_append_right _ ha) w
  · rcases List.mem_append.mp ha with z | z
    · rcases m a z with w | w
      · exact (fr.sn a (List.mem_append_left _ w)).imp (inD a) id
      · exact .inl (inR a w)
    · exact (fr.sn a (List.mem_append_right _ z)).imp (inD a) id
theorem meth_read {c mn : Str} {cl : Addr} {n : Nat} {m : List D → Rm} {p : Fpt} {args : Slots → Rb (List D)} {σ : L2.St} {H : Hp} {Q : VK} (hcl : X.mg c = some (.ref cl)) (hlen : ∀ s ds, args s = .ok ds → ds.length + 1 = n) (h : tO (ct X) W (oMeth p c mn args m) σ H Q) :
    tMethS cl mn (spM (ct X) n m) (WE W.w) (tPt (ct X) W p) (tBs (ct X) W args) σ H Q := by
  obtain ⟨s, R, S, rel, q⟩ := h
  refine ⟨s, R, S, rel, ?_⟩
  unfold oMeth at q
  cases e : p s with
  | err c => rw [e] at q; exact fun H' cl sm hc => q H' R S cl (rel.same sm) (Fr.same sm fun a ha => .inl ha) hc
  | stuck => rw [e] at q; exact q
  | ok x =>
    rw [e] at q
    intro v H1 k1 L
    obtain ⟨i, π, d⟩ := x
    cases d with
    | nd kd mm ds =>
      cases kd with
      | ins c' fs =>
        cases mm with
        | true =>
          change PostO (ct X) W R S σ H Q (if c' = c ∧ idxF mn fs = none then _ else _) at q
          by_cases hc : c' = c ∧ idxF mn fs = none
          · rw [if_pos hc] at q
            obtain ⟨ec, en⟩ := hc
            subst ec
            obtain ⟨l, cl2, dx, vs, S'', rfl, hm, hl, hh, rl⟩ := Lens.ins L
            have e2 : cl = cl2 := by
              have := hcl.symm.trans hm
              cases this
              rfl
            subst e2
            refine ⟨l, dx, _, rfl, hh, (lookF hl).2 en, s, R, S, rel.same k1, ?_⟩
            cases e3 : args s with
            | err c => simp only [e3] at q; exact fun H' cl sm hc => q H' R S cl (rel.same (k1.trans sm)) (Fr.same (k1.trans sm) fun a ha => .inl ha) hc
            | stuck => simp only [e3] at q; exact q
            | ok as =>
              simp only [e3] at q
              intro vs2 H2 T2 k2 ra
              by_cases hs : shrL as = true
              · rw [if_pos hs] at q
                have rel2 := rel.same (k1.trans k2)
                have fr12 : Fr R S H R S H2 := Fr.same (k1.trans k2) fun a ha => .inl ha
                obtain ⟨d0, v0, g1, g2, g3, Sd, Sr, rd, pm, u⟩ := L.same (rel.same k1) k2
                have nd := (List.nodup_append.mp (pm.nodup_iff.mp rel2.nd)).1
                have offd : ∀ a ∈ Sd, ¬ R a := fun a ha => rel2.off a (pm.mem_iff.mpr (List.mem_append_left _ ha))
                have hne : Sd ≠ [] := fun z => by
                  subst z
                  unfold Rp at rd
                  obtain ⟨a, vs', S3, e, c3, _⟩ := rd
                  cases c3.2
                refine ⟨by rw [List.length_cons, ← ra.length]; exact hlen s as e3, R, _, .ref l, Sd, as, vs2, rfl, rel2.dom, rd, nd, offd, ra.nilS hs, ?_⟩
                cases e4 : m (.nd (.ins c' fs) true ds :: as) with
                | ok d me =>
                  simp only [e4] at q
                  intro v H' R' S' T dm r' rdv nd' off' fr'
                  obtain ⟨S2, w1, w2, w3⟩ := meth_after rel2 pm (u hne) dm r' nd' off' fr'
                  exact q v H' R' S2 T w1 rdv (List.nodup_append.mp nd').2.1 w2 (fr12.trans w3)
                | err ce me =>
                  simp only [e4] at q
                  intro H' R' S' cl dm r' nd' off' fr' hc
                  obtain ⟨S2, w1, w2, w3⟩ := meth_after (T := []) rel2 pm (u hne) dm r' (by rw [List.append_nil]; exact nd') (fun a ha => off' a (by rwa [List.append_nil] at ha)) (by rw [List.append_nil]; exact fr')
                  rw [List.append_nil] at w3
                  exact q H' R' S2 cl w1 (fr12.trans w3) hc
                | stuck => simp only [e4] at q; exact q
              · rw [if_neg hs] at q; exact q.elim
          · rw [if_neg hc] at q; exact q.elim
        | false => exact q.elim
      | tup => exact q.elim
      | lst => exact q.elim
      | dct _ => exact q.elim
    | non => exact q.elim
    | bl _ => exact q.elim
    | int _ => exact q.elim
    | str _ => exact q.elim
theorem po_meth {k j : Nat} {c mn : Str} {n : Nat} {m : List D → Rm} {apos : Pos} {e o : Expr} {es : List Expr} {p : Fpt} {args : Slots → Rb (List D)} {pl : Sem Bool} (F : CalM X.prog X.w X.K X.mg X.base k c mn n m) (tk : Takes X W.w) (hr : Room j X.A) (hkj : k ≤ j) (ho : PPt X W o p) (ha : PBs X W (e :: es) args) (hlen : ∀ s ds, args s = .ok ds → ds.length + 1 = n)
    (hst : starEach (e :: es) X.env = (false, eval e X.env) :: starEach es X.env := by rfl) (hpl : (backTo pos (starEach es X.env)).any (·.1) = false := by rfl)
    (ht : eval (.Call (.Attribute o mn apos) (e :: es) [] pos) X.env = (do
      let ov ← eval o X.env
      standAt apos.atName
      let (f, first) ← holding [ov] (getMethod ov mn pl)
      callWith pos f first (backTo pos (starEach (e :: es) X.env)) (backToKw pos (keywordEach [] X.env))) := by rfl) :
    PO X W (.Call (.Attribute o mn apos) (e :: es) [] pos) (oMeth p c mn args m) := by
  obtain ⟨cl, f, fd, ps, hm, hc, me, F, hb⟩ := F
  exact pe_imp (pe_methS (pl := pl) ho hc me F (hr.mono hkj) hb (fun σ => passAt tk σ) ha hst hpl ht) fun σ H Q h => meth_read hm hlen h
/-- o.m(..), the object read alone -/
def bMeth (c mn : Str) (f : Fb) (args : Slots → Rb (List D)) (m : List D → Rb D) : Fb := fun s => (f s).bind fun d => match d with
  | .nd (.ins c' fs) _ _ => if c' = c ∧ idxF mn fs = none then (args s).bind fun as => m (frzL (d :: as)) else .stuck
  | _ => .stuck
theorem methP_read {c mn : Str} {cl : Addr} {n : Nat} {m : List D → Rb D} {f : Fb} {args : Slots → Rb (List D)} {σ : L2.St} {H : Hp} {Q : VK} (hcl : X.mg c = some (.ref cl)) (hlen : ∀ s ds, args s = .ok ds → ds.length + 1 = n) (h : tF (ct X) W (bMeth c mn f args m) σ H Q) :
    tMethS cl mn (spD (ct X) n m) (WE W.w) (tB (ct X) W f) (tBs (ct X) W args) σ H Q := by
  obtain ⟨s, R, S, rel, p⟩ := h
  refine tB_seq rel p (fun c h => h) (fun h => h) fun d v H1 T e p2 k1 r1 => ?_
  clear p
  cases d with
  | nd kd mm ds =>
    cases kd with
    | ins c' fs =>
      change PostF (ct X) W R σ H Q (if c' = c ∧ idxF mn fs = none then _ else _) at p2
      by_cases hc : c' = c ∧ idxF mn fs = none
      · rw [if_pos hc] at p2
        obtain ⟨ec, en⟩ := hc
        subst ec
        obtain ⟨a, cl2, dx, vs, S'', rfl, hm, hl, hh, rl⟩ := rp_ins r1
        have e2 : cl = cl2 := by
          have := hcl.symm.trans hm
          cases this
          rfl
        subst e2
        refine ⟨a, dx, _, rfl, hh, (lookF hl).2 en, ?_⟩
        refine tBs_seq (rel.same k1) (PostF.later k1 p2) (fun c h => h) (fun h => h) fun as vs2 H2 T2 e3 p3 k2 ra => ?_
        have rel2 := rel.same (k1.trans k2)
        have all : RpL (ct X) R H2 (.nd (.ins c' fs) mm ds :: as) (.ref a :: vs2) (T ++ T2) := RpL.cons (r1.same (rel.same k1).dom k2) ra
        refine ⟨by rw [List.length_cons, ← ra.length]; exact hlen s as e3, _, all.frz (fun b hb => rel2.dom b hb) (fun b hb => (all.owns b hb).some), ?_⟩
        have p4 := PostF.later k2 p3
        cases e4 : m (frzL (.nd (.ins c' fs) mm ds :: as)) with
        | ok d =>
          rw [e4] at p4
          exact fun v H' T k' r' nT fT => p4 v H' T k' (r'.fm (fun a h => h.elim) (fun _ _ h => h) fun _ _ => rfl) nT fT
        | err c => rw [e4] at p4; exact p4
        | stuck => rw [e4] at p4; exact p4.elim
      · rw [if_neg hc] at p2; exact p2.elim
    | tup => exact p2.elim
    | lst => exact p2.elim
    | dct _ => exact p2.elim
  | non => exact p2.elim
  | bl _ => exact p2.elim
  | int _ => exact p2.elim
  | str _ => exact p2.elim
theorem pf_meth {k j : Nat} {c mn : Str} {n : Nat} {m : List D → Rb D} {apos : Pos} {e o : Expr} {es : List Expr} {f : Fb} {args : Slots → Rb (List D)} {pl : Sem Bool} (F : CalP X.prog X.w X.K X.mg X.base k c mn n m) (tk : Takes X W.w) (hr : Room j X.A) (hkj : k ≤ j) (ho : PB X W o f) (ha : PBs X W (e :: es) args) (hlen : ∀ s ds, args s = .ok ds → ds.length + 1 = n)
    (hst : starEach (e :: es) X.env = (false, eval e X.env) :: starEach es X.env := by rfl) (hpl : (backTo pos (starEach es X.env)).any (·.1) = false := by rfl)
    (ht : eval (.Call (.Attribute o mn apos) (e :: es) [] pos) X.env = (do
      let ov ← eval o X.env
      standAt apos.atName
      let (f, first) ← holding [ov] (getMethod ov mn pl)
      callWith pos f first (backTo pos (starEach (e :: es) X.env)) (backToKw pos (keywordEach [] X.env))) := by rfl) :
    PF X W (.Call (.Attribute o mn apos) (e :: es) [] pos) (bMeth c mn f args m) := by
  obtain ⟨cl, fa, fd, ps, hm, hc, me, F, hb⟩ := F
  exact pe_imp (pe_methS (pl := pl) ho hc me F (hr.mono hkj) hb (fun σ => passAt tk σ) ha hst hpl ht) fun σ H Q h => methP_read hm hlen h
theorem tB_cont {C : Ct} {f : Fb} {σ : L2.St} {H : Hp} {Q Q' : VK} (h : tB C W f σ H Q) (i : ∀ x H1, Q x H1 → Q' x H1) : tB C W f σ H Q' := by
  obtain ⟨s, R, S, rel, p⟩ := h
  refine ⟨s, R, S, rel, ?_⟩
  cases e : f s with
  | ok d => rw [e] at p; exact fun v H' T k r => i _ _ (p v H' T k r)
  | err c => rw [e] at p; exact p
  | stuck => rw [e] at p; exact p
theorem pf_meth0 {k j : Nat} {c mn : Str} {m : List D → Rb D} {apos : Pos} {o : Expr} {f : Fb} {pl : Sem Bool} (F : CalP X.prog X.w X.K X.mg X.base k c mn 1 m) (tk : Takes X W.w) (hr : Room j X.A) (hkj : k ≤ j) (ho : PB X W o f)
    (ht : eval (.Call (.Attribute o mn apos) [] [] pos) X.env = (do
      let ov ← eval o X.env
      standAt apos.atName
      let (f, first) ← holding [ov] (getMethod ov mn pl)
      callWith pos f first (backTo pos (starEach [] X.env)) (backToKw pos (keywordEach [] X.env))) := by rfl) :
    PF X W (.Call (.Attribute o mn apos) [] [] pos) (bMeth c mn f bNil m) := by
  obtain ⟨cl, fa, fd, ps, hm, hc, me, F, hb⟩ := F
  refine pe_imp (pe_meth0S (pl := pl) ho hc me F (hr.mono hkj) hb (fun σ => passAt tk σ) ht) fun σ H Q h => ?_
  have z := methP_read (n := 1) hm (fun s ds e => by rw [bNil_len s ds e]) h
  unfold tMethS at z ⊢
  refine tB_cont z fun x H1 ⟨a, dx, fs, e1, e2, e3, s, R, S, rel, q⟩ => ⟨a, dx, fs, e1, e2, e3, q [] H1 [] (Same.refl H1) RpL.nil⟩
/-! ### C(..) -/
def bNew (c : Str) (m : List D → Rm) (args : Slots → Rb (List D)) : Fb := fun s => (args s).bind fun as => if shrL as = true then (match m (.nd (.ins c []) true [] :: as) with
  | .ok .non me => if own me = true then .ok me else .stuck
  | _ => .stuck) else .stuck
theorem pf_new {k j : Nat} {c : Str} {n : Nat} {m : List D → Rm} {p : Pos} {e : Expr} {es : List Expr} {args : Slots → Rb (List D)} (F : CalN X.prog X.w X.K X.mg X.base k c n m) (hr : Room j X.A) (hkj : k + 1 ≤ j) (hg : Gl X c) (ha : PBs X W (e :: es) args) (hlen : ∀ s ds, args s = .ok ds → ds.length + 1 = n)
    (hdb : (c == ("__debug__" : Str)) = false := by decide) (he : starEach (e :: es) X.env = (false, eval e X.env) :: starEach es X.env := by rfl) (hpl : (backTo pos (starEach es X.env)).any (·.1) = false := by rfl) :
    PF X W (.Call (.Name c p) (e :: es) [] pos) (bNew c m args) := by
  obtain ⟨cl, f, fd, ps, hm, mk, F, hb⟩ := F
  refine pe_imp (pe_make (dvs := []) (ds := []) (E := E0) mk F (hr.mono hkj) hg hm hb .nil passL ha hdb he hpl) fun σ H Q h => ?_
  obtain ⟨s, R, S, rel, q⟩ := h
  refine tBs_seq rel q (fun c h => h) (fun h => h) fun as vs H1 T1 e1 p1 k1 ra => ?_
  intro x dx hx hdx hne
  have rel1 := rel.same k1
  by_cases hs : shrL as = true
  · rw [if_pos hs] at p1
    have kk : Same H1 (upd (upd H1 dx (.own x)) x (.ins cl dx [])) := fun b o ho => by
      rw [upd_ne (ne_of_none ho hx), upd_ne (ne_of_none ho hdx)]; exact ho
    have rx : Rp (ct X) R (upd (upd H1 dx (.own x)) x (.ins cl dx [])) (.nd (.ins c []) true []) (.ref x) [x] := by
      unfold Rp
      exact ⟨x, [], [], rfl, ⟨⟨cl, dx, hm, rfl, upd_same⟩, rfl⟩, RpL.nil⟩
    have nR : ¬ R x := fun z => rel1.dom x z hx
    have hl0 := ra.length
    refine ⟨by rw [List.append_nil, List.length_cons, ← hl0]; exact hlen s as e1, R, _, .ref x, [x], as, vs ++ [], rfl, fun a ha => by rw [at_of kk (rel1.dom a ha)]; exact rel1.dom a ha, rx, by simp, by simpa using nR, by rw [List.append_nil]; exact (ra.nilS hs).same rel1.dom kk, ?_⟩
    cases e2 : m (.nd (.ins c []) true [] :: as) with
    | err _ _ => simp only [e2] at p1; exact p1.elim
    | stuck => simp only [e2] at p1; exact p1.elim
    | ok d me =>
      simp only [e2] at p1
      cases d with
      | non =>
        intro v H' R' S' T dm r' rd nd off fr
        refine ⟨rd.1, ?_⟩
        change PostF (ct X) W R σ H Q (if own me = true then _ else _) at p1
        by_cases ho : own me = true
        · rw [if_pos ho] at p1
          refine p1 (.ref x) H' S' (fun a o hao => ?_) (r'.own ho) (List.nodup_append.mp nd).1 fun a ha => ?_
          · have h1 : H1 a = some o := k1 a o hao
            have h2 := kk a o h1
            rw [fr.out a (by rw [h2]; exact fun z => by cases z) (by simp; exact ne_of_none h1 hx)]
            exact h2
          · rcases fr.sn a (List.mem_append_left _ ha) with z | z
            · have : a = x := by simpa using z
              subst this
              exact k1.free hx
            · exact k1.free (kk.free z)
        · rw [if_neg ho] at p1; exact p1.elim
      | bl _ => exact p1.elim
      | int _ => exact p1.elim
      | str _ => exact p1.elim
      | nd _ _ _ => exact p1.elim
  · rw [if_neg hs] at p1; exact p1.elim
end
section
variable {P : Program} {w : World} {K : PySem.W.Frag} {mg : Str → Option Value} {base : Heap}
theorem fnokM {x qual : Str} {st : Stmt} {f : Addr} {fd : FuncData} {N ps : List Str} {k : Nat} {g : Fs} (F : Fun K x qual st f fd) (S : FnScope N ps (defScope st))
    (body : ∀ (cdv : Value) (A : Around) (outer : List Env) (s : Shared) (H : Hp) (E : XK) (v0 : V), Room k (A.deeper (envOfC qual (defScope st) s.heap.objs.size f cdv)) →
      PSsd (cxOf (L2.CX P w) P w K mg base N qual (defScope st) f cdv A outer s H E) (WM E v0) (defBody st) g) :
    FnOk P w K mg base (L2.CX P w) (k + 1) f fd ps (spM ⟨K, mg⟩ ps.length (fnM N.length g)) :=
  F.okX S (fun vs H Q E h => h.1) fun cdv A outer s H vs Q E hr h => by
    obtain ⟨v0, q⟩ := bodyM_read h
    exact ⟨_, body cdv A outer s H E v0 hr, q⟩
theorem tkM {N : List Str} {qual : Str} {scope : Scope} {f : Addr} {cdv : Value} {A : Around} {outer : List Env} {s : Shared} {H : Hp} {E : XK} {v0 : V} : Takes (cxOf (L2.CX P w) P w K mg base N qual scope f cdv A outer s H E) (WM E v0).w := takes_of rfl rfl rfl rfl
end
end VL
/-! # VL14: a freezing that nobody sees; more builtins -/
namespace VL
open PySem PySem.Spec PyProof.Rows L2
/-- a slot frozen -/
def fzS (i : Nat) (s : Slots) : Slots := match s[i]? with
  | some (some d) => s.set i (some (frz d))
  | _ => s
def sFz (i : Nat) (g : Fs) : Fs := fun s => g (fzS i s)
section
variable {X : Cx} {W : Wi} {pos : Pos}
theorem psd_fz {i : Nat} {st : Stmt} {g : Fs} (h : PSd X W st g) : PSd X W st (sFz i g) := ps_imp h fun Dn σ H h => by
  obtain ⟨s, R, S, rel, p⟩ := h
  unfold sFz fzS at p
  cases e : s[i]? with
  | none => rw [e] at p; exact ⟨s, R, S, rel, p⟩
  | some o =>
    cases o with
    | none => rw [e] at p; exact ⟨s, R, S, rel, p⟩
    | some d =>
      rw [e] at p
      obtain ⟨v, R', S', q1, q2, q3, q4⟩ := rel.freeze e
      exact ⟨_, R', S', q2, PostS.later q4 p⟩
end
/-! ### lists of ints handed to a builtin -/
def intsD : List D → Option (List Int)
  | [] => some []
  | .int i :: ds => (intsD ds).map (i :: ·)
  | _ :: _ => none
theorem intsD_map : ∀ ns : List Int, intsD (ns.map D.int) = some ns
  | [] => rfl
  | n :: ns => by rw [List.map_cons, intsD, intsD_map ns]; rfl
theorem RpL.ints {C : Ct} {R : Addr → Prop} {H : Hp} : ∀ {ds : List D} {vs : List V} {S : List Addr} {ns : List Int}, RpL C R H ds vs S → intsD ds = some ns → vs = ns.map V.int
  | [], vs, S, ns, h, e => by unfold intsD at e; cases e; unfold RpL at h; exact h.1
  | d :: ds, vs, S, ns, h, e => by
    unfold RpL at h
    obtain ⟨v, vs', S1, S2, e1, e2, h1, h2⟩ := h
    cases d with
    | int x =>
      unfold intsD at e
      obtain ⟨ts, z1, z2⟩ := Option.map_eq_some_iff.mp e
      subst z2
      rw [e1, h1.1, RpL.ints h2 z1]
      rfl
    | non => cases e
    | bl _ => cases e
    | str _ => cases e
    | nd _ _ _ => cases e
def gOnInts (g : List Int → Option D) : List D → Option D
  | [.nd .lst _ ds] => (intsD ds).bind g
  | _ => none
theorem gOnInts_eq (g : List Int → Option D) (m : Bool) (ns : List Int) : gOnInts g [.nd .lst m (ns.map D.int)] = g ns := by
  show (intsD (ns.map D.int)).bind g = _
  rw [intsD_map]; rfl
theorem gOnInts_inv {g : List Int → Option D} {ds : List D} {d : D} (e : gOnInts g ds = some d) : ∃ m es ns, ds = [.nd .lst m es] ∧ intsD es = some ns ∧ g ns = some d := by
  unfold gOnInts at e
  split at e
  · obtain ⟨ns, h1, h2⟩ := Option.bind_eq_some_iff.mp e
    exact ⟨_, _, ns, rfl, h1, h2⟩
  · cases e
def sumG (ns : List Int) : Option D := some (.int ns.sum)
def gSum := gOnInts sumG
theorem cv_sum {X : Cx} (hc : X.calm = true) : CallV X (.builtin "sum") gSum := ⟨_, cr_sum hc, fun ds d e R H vs S Q dm r q => by
  obtain ⟨m, es, ns, rfl, h1, h2⟩ := gOnInts_inv e
  cases h2
  obtain ⟨v, S1, rfl, r1⟩ := rpl1 r
  obtain ⟨a, vs, S', rfl, sa, ra⟩ := rp_lst r1
  rw [ra.ints h1] at sa
  exact ⟨a, ns, rfl, sa, q _ H [] (Same.refl H) ⟨rfl, rfl⟩ List.nodup_nil (by simp)⟩⟩
/-- the greatest, the least -/
def maxI : List Int → Int
  | [] => 0
  | [n] => n
  | n :: ns => if maxI ns > n then maxI ns else n
theorem maxI_spec : ∀ ns : List Int, ns ≠ [] → maxI ns ∈ ns ∧ ∀ y ∈ ns, y ≤ maxI ns
  | [], h => (h rfl).elim
  | [n], _ => ⟨by simp [maxI], fun y hy => by rw [List.mem_singleton.mp hy]; simp [maxI]⟩
  | n :: m :: ns, _ => by
    have ih := maxI_spec (m :: ns) (by simp)
    have e : maxI (n :: m :: ns) = if maxI (m :: ns) > n then maxI (m :: ns) else n := rfl
    rw [e]
    split
    · refine ⟨List.mem_cons_of_mem _ ih.1, fun y hy => ?_⟩
      rcases List.mem_cons.mp hy with h | h
      · omega
      · exact ih.2 y h
    · refine ⟨by simp, fun y hy => ?_⟩
      rcases List.mem_cons.mp hy with h | h
      · omega
      · have := ih.2 y h; omega
def minI : List Int → Int
  | [] => 0
  | [n] => n
  | n :: ns => if minI ns < n then minI ns else n
theorem minI_spec : ∀ ns : List Int, ns ≠ [] → minI ns ∈ ns ∧ ∀ y ∈ ns, minI ns ≤ y
  | [], h => (h rfl).elim
  | [n], _ => ⟨by simp [minI], fun y hy => by rw [List.mem_singleton.mp hy]; simp [minI]⟩
  | n :: m :: ns, _ => by
    have ih := minI_spec (m :: ns) (by simp)
    have e : minI (n :: m :: ns) = if minI (m :: ns) < n then minI (m :: ns) else n := rfl
    rw [e]
    split
    · refine ⟨List.mem_cons_of_mem _ ih.1, fun y hy => ?_⟩
      rcases List.mem_cons.mp hy with h | h
      · omega
      · exact ih.2 y h
    · refine ⟨by simp, fun y hy => ?_⟩
      rcases List.mem_cons.mp hy with h | h
      · omega
      · have := ih.2 y h; omega
def maxG (ns : List Int) : Option D := if 0 < ns.length then some (.int (maxI ns)) else none
def minG (ns : List Int) : Option D := if 0 < ns.length then some (.int (minI ns)) else none
def gMax1 := gOnInts maxG
def gMin1 := gOnInts minG
theorem cv_max1 {X : Cx} (hc : X.calm = true) : CallV X (.builtin "max") gMax1 := ⟨_, cr_max hc, fun ds d e R H vs S Q dm r q => by
  obtain ⟨m, es, ns, rfl, h1, h2⟩ := gOnInts_inv e
  unfold maxG at h2
  split at h2
  · rename_i hl
    cases h2
    obtain ⟨v, S1, rfl, r1⟩ := rpl1 r
    obtain ⟨a, vs, S', rfl, sa, ra⟩ := rp_lst r1
    rw [ra.ints h1] at sa
    have sp := maxI_spec ns (ne_nil_len hl)
    refine ⟨a, ns, rfl, sa, hl, fun k hk1 hk2 => ?_⟩
    have e : k = maxI ns := Int.le_antisymm (sp.2 _ hk1) (hk2 _ sp.1)
    rw [e]
    exact q _ H [] (Same.refl H) ⟨rfl, rfl⟩ List.nodup_nil (by simp)
  · cases h2⟩
theorem cv_min1 {X : Cx} (hc : X.calm = true) : CallV X (.builtin "min") gMin1 := ⟨_, cr_min hc, fun ds d e R H vs S Q dm r q => by
  obtain ⟨m, es, ns, rfl, h1, h2⟩ := gOnInts_inv e
  unfold minG at h2
  split at h2
  · rename_i hl
    cases h2
    obtain ⟨v, S1, rfl, r1⟩ := rpl1 r
    obtain ⟨a, vs, S', rfl, sa, ra⟩ := rp_lst r1
    rw [ra.ints h1] at sa
    have sp := minI_spec ns (ne_nil_len hl)
    refine ⟨a, ns, rfl, sa, hl, fun k hk1 hk2 => ?_⟩
    have e : k = minI ns := Int.le_antisymm (hk2 _ sp.1) (sp.2 _ hk1)
    rw [e]
    exact q _ H [] (Same.refl H) ⟨rfl, rfl⟩ List.nodup_nil (by simp)
  · cases h2⟩
/-- sorted(ints) -/
def srtI (ns : List Int) : List Int := ns.mergeSort fun a b => decide (a ≤ b)
theorem srtI_perm (ns : List Int) : (srtI ns).Perm ns := List.mergeSort_perm _ _
theorem srtI_le (ns : List Int) : (srtI ns).Pairwise (· ≤ ·) := by
  have z := List.pairwise_mergeSort (le := fun a b : Int => decide (a ≤ b)) (fun a b c h1 h2 => by simp at *; omega) (fun a b => by simp; omega) ns
  exact z.imp fun h => by simpa using h
theorem srtI_eq {ns ms : List Int} (h1 : ms.Perm ns) (h2 : ms.Pairwise (· ≤ ·)) : ms = srtI ns :=
  List.Perm.eq_of_pairwise (fun a b _ _ x y => Int.le_antisymm x y) h2 (srtI_le ns) (h1.trans (srtI_perm ns).symm)
theorem srtI_self {ns : List Int} (h : ns.Pairwise (· ≤ ·)) : srtI ns = ns := (srtI_eq (List.Perm.refl ns) h).symm
def srtG (ns : List Int) : Option D := some (.lst true ((srtI ns).map D.int))
def gSorted := gOnInts srtG
theorem cv_sorted {X : Cx} : CallV X (.builtin "sorted") gSorted := ⟨_, cr_sortedI, fun ds d e R H vs S Q dm r q => by
  obtain ⟨m, es, ns, rfl, h1, h2⟩ := gOnInts_inv e
  cases h2
  obtain ⟨v, S1, rfl, r1⟩ := rpl1 r
  obtain ⟨a, vs, S', rfl, sa, ra⟩ := rp_lst r1
  rw [ra.ints h1] at sa
  refine ⟨a, ns, rfl, sa, fun ns' p hp hs hn => ?_⟩
  rw [srtI_eq hp hs]
  have z := rp_newL (C := ct X) (H := H) dm (Same.refl H) hn (rpl_ints (srtI ns)) List.nodup_nil (by simp)
  exact q _ _ _ z.1 z.2.1 z.2.2.1 z.2.2.2⟩
/-! ### list(range(..)) -/
instance decRg (i j : Int) : Decidable (RgOk i j) := by unfold RgOk; infer_instance
def bRg1 (f : Fb) : Fb := fun s => (f s).bind fun d => match d with
  | .int j => if RgOk 0 j then .ok (.lst true (rgD 0 j.toNat)) else .stuck
  | _ => .stuck
def bRg2 (f f' : Fb) : Fb := fun s => (f s).bind fun d => (f' s).bind fun d' => match d, d' with
  | .int i, .int j => if RgOk i j then .ok (.lst true (rgD i (j - i).toNat)) else .stuck
  | _, _ => .stuck
theorem rgV_ints (a b : Int) : rgV a b = ((List.range (b - a).toNat).map fun i => a + (i : Nat)).map V.int := by
  unfold rgV
  rw [List.map_map]; rfl
theorem rgD_ints (a : Int) (n : Nat) : rgD a n = ((List.range n).map fun i => a + (i : Nat)).map D.int := by
  unfold rgD
  rw [List.map_map]; rfl
section
variable {X : Cx} {W : Wi} {pos : Pos}
theorem rp_rg {R : Addr → Prop} {H H1 : Hp} {p : Addr} (a b : Int) (dm : ∀ a, R a → H1 a ≠ none) (k : Same H H1) (hp : H1 p = none) :
    Same H (upd H1 p (.lst (rgV a b))) ∧ Rp (ct X) R (upd H1 p (.lst (rgV a b))) (.lst true (rgD a (b - a).toNat)) (.ref p) [p] ∧ [p].Nodup ∧ ∀ x ∈ [p], H x = none := by
  rw [rgV_ints, rgD_ints]
  exact rp_newL dm k hp (rpl_ints _) List.nodup_nil (by simp)
theorem pf_listRg1 {p rp rpos : Pos} {a : Expr} {f : Fb} (hc : X.calm = true) (hg : Gl X "list") (hm : X.mg "list" = none) (hg2 : Gl X "range") (hm2 : X.mg "range" = none) (ha : PB X W a f)
    (na : starEach [a] X.env = (false, eval a X.env) :: starEach [] X.env := by rfl) (na2 : starEach [.Call (.Name "range" rp) [a] [] rpos] X.env = (false, eval (.Call (.Name "range" rp) [a] [] rpos) X.env) :: starEach [] X.env := by rfl) :
    PF X W (.Call (.Name "list" p) [.Call (.Name "range" rp) [a] [] rpos] [] pos) (bRg1 f) := pe_imp (pe_listRg hc hg hm (prg_1 hg2 hm2 ha na) na2) fun σ H Q q => by
  obtain ⟨s, R, S, rel, p⟩ := q
  refine tB_seq rel p (fun c h => h) (fun h => h) fun d v H1 T e p k r => ?_
  cases d with
  | int j =>
    rw [r.1]
    refine ⟨j, rfl, ?_⟩
    by_cases ho : RgOk 0 j
    · simp only [if_pos ho] at p
      refine ⟨ho, fun q hq => ?_⟩
      have z := rp_rg (X := X) (R := R) 0 j (rel.same k).dom k hq
      rw [Int.sub_zero] at z
      exact p _ _ _ z.1 z.2.1 z.2.2.1 z.2.2.2
    · simp only [if_neg ho] at p; exact p.elim
  | non => exact p.elim
  | bl _ => exact p.elim
  | str _ => exact p.elim
  | nd _ _ _ => exact p.elim
end
end VL
namespace VL
open PySem PySem.Spec PyProof.Rows L2
/-! ### len(set(xs)), xs ints -/
/-- the different ones, each where it is first met -/
def difI (ns : List Int) : List Int := firstMet (fun i => ns.getD i 0) ns.length
def gLenSet : D → Option D
  | .nd .lst _ ds => (intsD ds).bind fun ns => if ns.length ≤ 4000 then some (.int (difI ns).length) else none
  | _ => none
def tLenSetG (K : PySem.W.Frag) (ta : TE) : TE := fun σ H Q => ta σ H fun x H1 => ∃ (l : Addr) (ns : List Int), x = .ref l ∧ SqL K H1 l (ns.map V.int) ∧ ns.length ≤ 4000 ∧ Q (.int ((difI ns).length : Nat)) H1
theorem vals_ints : ∀ {ns : List Int} {us : List Value}, Vals (ns.map V.int) us → PyProof.Rows.IntsAre us ns
  | [], _, .nil => .nil
  | m :: ms, _, .cons r t => by
    obtain ⟨j, rfl⟩ := r
    exact .cons m j (vals_ints t)
theorem firstMet_le (val : Nat → Int) (n : Nat) : (firstMet val n).length ≤ n := firstMet_length_le val n
section
variable {X : Cx} {W : Wi} {pos : Pos}
theorem pe_lenSetG {a : Expr} {ta : TE} {p p2 q : Pos} (hc : X.calm = true) (hu : X.A.units + 65 < cLine) (hg : Gl X "len") (hm : X.mg "len" = none) (hg2 : Gl X "set") (hm2 : X.mg "set" = none) (ha : PE X a ta)
    (na : starEach [a] X.env = (false, eval a X.env) :: starEach [] X.env) :
    PE X (.Call (.Name "len" p) [.Call (.Name "set" p2) [a] [] q] [] pos) (tLenSetG X.K ta) := by
  constructor
  intro pins st σ H Q I h
  refine Call_ (ld_blt I hg hm boot_len ?_)
  apply PyProof.Rows.callWith_builtin1 (PyProof.Rows.args_cons ?_ rfl) rfl rfl
  refine Call_ (ld_blt I hg2 hm2 boot_set ?_)
  have run := ha.run pins st σ H _ I h
  apply PyProof.Rows.callWith_type1 (PyProof.Rows.args_cons (thn run fun v s1 z => PyProof.Rows.args_nil ?_) na) na rfl
  obtain ⟨x, H1, I1, rx, l, ns, ex, hq, hl, q1⟩ := z
  subst ex
  cases rx
  obtain ⟨its, r, pl, _⟩ := I1.list hq
  have hlen : its.toArray.size = ns.length := by
    have := r.length
    rw [List.length_map] at this
    simp [← this]
  have hb : its.toArray.size + 1 < scanBound := by rw [hlen]; unfold scanBound; omega
  refine call_set_list (I1.ok.hd hc) pl.isList (by simpa using vals_ints r) hb fun h' tk hS hk => ?_
  apply PyProof.Rows.args_nil
  rw [hlen] at hS
  obtain ⟨o, es, ep, t, ho, hex, hd, _, _, _, hf, hn⟩ := hS
  have I2 : Inv X pins σ H1 { s1 with heap := h', toks := tk } := I1.kept fun b o e => hk b o (Heap.lt_size e) e
  have hn' : (difI ns).length ≤ 4000 := Nat.le_trans (firstMet_le _ _) hl
  have hn2 : (firstMet (fun i => ns.getD i 0) ns.length).length ≤ 4000 := hn'
  exact call_len_set ho hex hd hf (by rw [hn] <;> omega) ⟨.int _, H1, I2.tok _, ⟨_, by rw [hn]; rfl⟩, q1⟩
theorem pf_LenSet {a : Expr} {f : Fb} {p p2 q : Pos} (hc : X.calm = true) (hu : X.A.units + 65 < cLine) (hg : Gl X "len") (hm : X.mg "len" = none) (hg2 : Gl X "set") (hm2 : X.mg "set" = none) (ha : PB X W a f)
    (na : starEach [a] X.env = (false, eval a X.env) :: starEach [] X.env := by rfl) : PF X W (.Call (.Name "len" p) [.Call (.Name "set" p2) [a] [] q] [] pos) (bUn gLenSet f) := pe_imp (pe_lenSetG hc hu hg hm hg2 hm2 ha na) fun σ H Q q => by
  obtain ⟨s, R, S, rel, p⟩ := q
  refine tB_seq rel p (fun c h => h) (fun h => h) fun d v H1 T e p k r => ?_
  cases z : gLenSet d with
  | none => rw [z] at p; exact p.elim
  | some d' =>
    rw [z] at p
    unfold gLenSet at z
    split at z
    · obtain ⟨ns, z1, z2⟩ := Option.bind_eq_some_iff.mp z
      split at z2
      · rename_i hl
        cases z2
        obtain ⟨a, vs, S', rfl, sa, ra⟩ := rp_lst r
        rw [ra.ints z1] at sa
        exact ⟨a, ns, rfl, sa, hl, p _ H1 [] k ⟨rfl, rfl⟩ List.nodup_nil (by simp)⟩
      · cases z2
    · cases z
end
end VL
namespace VL
open PySem PySem.Spec PyProof.Rows L2
/-! ### {"a": x, ..} -/
theorem putK_app {acc : List (Key × V)} {k : Key} {v : V} (h : k ∉ acc.map (·.1)) : putK acc k v = acc ++ [(k, v)] := by
  unfold putK
  rw [if_neg]
  intro q
  obtain ⟨kv, h1, h2⟩ := List.any_eq_true.mp q
  exact h (List.mem_map.mpr ⟨kv, h1, of_decide_eq_true h2⟩)
theorem mergeK_app : ∀ (more acc : List (Key × V)), (more.map (·.1)).Nodup → (∀ k ∈ more.map (·.1), k ∉ acc.map (·.1)) → mergeK acc more = acc ++ more
  | [], acc, _, _ => by simp [mergeK]
  | kv :: more, acc, hn, hd => by
    rw [List.map_cons, List.nodup_cons] at hn
    have e : mergeK acc (kv :: more) = mergeK (putK acc kv.1 kv.2) more := rfl
    rw [e, putK_app (hd kv.1 (by simp)), mergeK_app more _ hn.2]
    · simp
    · intro k hk
      rw [List.map_append, List.mem_append]
      intro h
      rcases h with h | h
      · exact hd k (by rw [List.map_cons]; exact List.mem_cons_of_mem _ hk) h
      · have : k = kv.1 := by simpa using h
        exact hn.1 (this ▸ hk)
def PFK (X : Cx) (W : Wi) (pos : Pos) (keys : List (Option Expr)) (vals : List Expr) (ks : List Str) (f : Slots → Rb (List D)) : Prop :=
  ∃ trs, PPs X pos keys vals trs ∧ ∀ σ H Q, (tFs (ct X) W f σ H fun vs H1 => Q ((ks.zip vs).map fun kv => (V.str kv.1, kv.2)) H1) → tPairs trs σ H Q
def bDct (ks : List Str) (f : Slots → Rb (List D)) : Fb := fun s => (f s).bind fun ds => if ds.length = ks.length ∧ ks.length ≤ 15 ∧ (ks.map (Sum.inr : Str → Key)).Nodup then .ok (.nd (.dct (ks.map Sum.inr)) true ds) else .stuck
section
variable {X : Cx} {W : Wi} {pos : Pos}
theorem pfk_nil : PFK X W pos [] [] [] bNil := ⟨[], pps_nil, fun σ H Q h => by
  obtain ⟨s, R, S, rel, p⟩ := h
  exact p [] H [] (Same.refl H) RpL.nil List.nodup_nil (by simp)⟩
theorem pfk_cons {x : Str} {j : Nat} {kp : Pos} {v : Expr} {keys : List (Option Expr)} {vals : List Expr} {ks : List Str} {f : Fb} {g : Slots → Rb (List D)} (hv : PF X W v f) (hr : PFK X W pos keys vals ks g) :
    PFK X W pos (some (.Constant (.str x) j kp) :: keys) (v :: vals) (x :: ks) (bCons f g) := by
  obtain ⟨trs, h1, h2⟩ := hr
  refine ⟨(tC (.str x), tF (ct X) W f) :: trs, pps_cons pe_str hv h1, fun σ H Q h => ?_⟩
  obtain ⟨s, R, S, rel, p⟩ := h
  show tF (ct X) W f σ H fun y H2 => tPairs trs σ H2 fun ps H3 => Q ((V.str x, y) :: ps) H3
  refine tF_seq rel p (fun c h => h) (fun h => h) fun d v H1 T e p k1 r n1 f1 => ?_
  refine h2 σ H1 _ (tFs_seq (P := PostLF (ct X) W R σ H _) (rel.same k1) p (fun c h H' cl k e => h H' cl (k1.trans k) e) (fun h => h) fun ds vs H2 T2 e2 p2 k2 r2 n2 f2 => ?_)
  have rr := RpL.cons (r.same (rel.same k1).dom k2) r2
  refine p2 _ H2 (T ++ T2) (k1.trans k2) rr (nodup_app (H := H) n1 n2 (fun a ha => (r.owns a ha).some) f2) fun a ha => ?_
  rcases List.mem_append.mp ha with ha | ha
  · exact f1 a ha
  · exact k1.free (f2 a ha)
theorem zip_keys (ks : List Str) (vs : List V) (h : vs.length = ks.length) : (ks.zip vs).map (fun kv => (V.str kv.1, kv.2)) = ((ks.map (Sum.inr : Str → Key)).zip vs).map (fun kv => (kV kv.1, kv.2)) := by
  rw [List.zip_map_left, List.map_map]
  rfl
theorem pf_dct {keys : List (Option Expr)} {vals : List Expr} {ks : List Str} {f : Slots → Rb (List D)} (h : PFK X W pos keys vals ks f) (hall : keys.all (·.isSome) = true := by rfl) (hl : keys.length = vals.length := by rfl) (h0 : keys ≠ [] := by simp) (h15 : keys.length ≤ 15 := by decide) :
    PF X W (.Dict keys vals pos) (bDct ks f) := by
  obtain ⟨trs, h1, h2⟩ := h
  refine pe_imp (pe_disp h1 hall hl h0 h15) fun σ H Q q => ?_
  obtain ⟨s, R, S, rel, p⟩ := q
  intro a ha
  have k0 : Same H (upd H a (.dK [])) := same_upd' ha
  refine h2 σ _ _ (tFs_seq (P := PostF (ct X) W R σ H Q) (rel.same k0) p (fun c h H' cl k e => h H' cl (k0.trans k) e) (fun h => h) fun ds vs H2 T e2 p2 k2 r2 n2 f2 => ?_)
  have p2' : PostF (ct X) W R σ H Q (if ds.length = ks.length ∧ ks.length ≤ 15 ∧ (ks.map (Sum.inr : Str → Key)).Nodup then .ok (.nd (.dct (ks.map Sum.inr)) true ds) else .stuck) := p2
  by_cases hc : ds.length = ks.length ∧ ks.length ≤ 15 ∧ (ks.map (Sum.inr : Str → Key)).Nodup
  · rw [if_pos hc] at p2'
    obtain ⟨c1, c2, c3⟩ := hc
    have hd : H2 a = some (.dK []) := k2 a _ upd_same
    have hv : vs.length = ks.length := by rw [← r2.length]; exact c1
    have hkl : (ks.map (Sum.inr : Str → Key)).length = vs.length := by rw [List.length_map, hv]
    refine ⟨hd, (ks.map (Sum.inr : Str → Key)).zip vs, zip_keys ks vs hv, by rw [List.length_zip, hkl, Nat.min_self]; omega, ?_⟩
    have hmap : ((ks.map (Sum.inr : Str → Key)).zip vs).map (·.1) = ks.map Sum.inr := List.map_fst_zip (by omega)
    rw [mergeK_app _ _ (by rw [hmap]; exact c3) (by simp), List.nil_append]
    have haT : a ∉ T := fun z => by
      have := f2 a z
      rw [upd_same] at this; cases this
    have hS : Same H (upd H2 a (.dK ((ks.map (Sum.inr : Str → Key)).zip vs))) := fun b o hb => by
      have hne : b ≠ a := ne_of_none hb ha
      rw [upd_ne hne]
      exact k2 b o (by rw [upd_ne hne]; exact hb)
    have hR : ∀ b, R b → R b ∧ (upd H2 a (.dK ((ks.map (Sum.inr : Str → Key)).zip vs))) b = H2 b := fun b hb => ⟨hb, upd_ne fun e => by subst e; exact rel.dom b hb ha⟩
    have ht : TupS H2 (upd H2 a (.dK ((ks.map (Sum.inr : Str → Key)).zip vs))) := tupS_upd fun xs hx => by
      rcases hx with hx | ⟨o, hx⟩
      · rw [hd] at hx; cases hx
      · rw [hd] at hx; cases hx
    have r3 := r2.fm hR ht fun b hb => upd_ne fun e => by subst e; exact haT hb
    refine p2' (.ref a) _ (a :: T) hS ?_ (List.nodup_cons.mpr ⟨haT, n2⟩) fun b hb => ?_
    · unfold Rp
      exact ⟨a, vs, T, rfl, ⟨⟨hkl, c3⟩, upd_same, rfl⟩, r3⟩
    · rcases List.mem_cons.mp hb with rfl | hb
      · exact ha
      · exact k0.free (f2 b hb)
  · rw [if_neg hc] at p2'
    exact p2'.elim
end
end VL
namespace VL
open PySem PySem.Spec PyProof.Rows L2
/-! ### what is never reached -/
def bStuck : Fb := fun _ => .stuck
theorem pf_stuck {X : Cx} {W : Wi} {e : Expr} : PF X W e bStuck := ⟨fun pins s σ H Q I h => by
  obtain ⟨s, R, S, rel, p⟩ := h
  exact p.elim⟩
end VL
/-! # VL15: range with a step, values that change slots as parts of expressions -/
namespace VL
open PySem PySem.Spec PyProof.Rows L2
/-! ### range(a, b, c) -/
def rgC (lo c : Int) (n : Nat) : List D := (List.range n).map fun i => .int (lo + (i : Nat) * c)
theorem rgC_get {lo c : Int} {n i : Nat} {d : D} (h : (rgC lo c n)[i]? = some d) : i < n ∧ d = .int (lo + (i : Nat) * c) := by
  unfold rgC at h
  rw [List.getElem?_map] at h
  obtain ⟨j, h1, h2⟩ := Option.map_eq_some_iff.mp h
  obtain ⟨h4, h5⟩ := List.getElem?_eq_some_iff.mp h1
  rw [List.getElem_range] at h5
  rw [List.length_range] at h4
  subst h5
  exact ⟨h4, h2.symm⟩
theorem walks_rgC {C : Ct} {R : Addr → Prop} {H : Hp} {lo c : Int} {n : Nat} : Walks C R (Itc lo c n) (rgC lo c n) H := by
  refine ⟨fun i d hi => ?_, ?_⟩
  · obtain ⟨h1, h2⟩ := rgC_get hi
    refine ⟨h1, fun x H' hy => ⟨hy.1, ?_⟩⟩
    rw [h2, hy.2]
    exact ⟨rfl, rfl⟩
  · show n ≤ _
    unfold rgC
    rw [List.length_map, List.length_range]
    exact Nat.le_refl _
/-- how many turns, where the range is small -/
def rgC? (i j c : Int) : Option Nat := if c ≠ 0 ∧ c.natAbs < 1073741824 ∧ Builtin.Range.small i j c = true ∧ Builtin.Range.rangeSize i j c = ((Builtin.Range.rangeSize i j c).toNat : Int) then some (Builtin.Range.rangeSize i j c).toNat else none
theorem rgC?_ok {i j c : Int} {n : Nat} (h : rgC? i j c = some n) : RgC i j c n := by
  unfold rgC? at h
  split at h
  · rename_i q
    cases h
    exact ⟨q.1, q.2.1, q.2.2.1, q.2.2.2⟩
  · cases h
def rgC3 : List D → Option (Int × Int × Nat)
  | [.int i, .int j, .int c] => (rgC? i j c).map fun n => (i, c, n)
  | _ => none
def sForR3 (f f' f'' : Fb) (g : Fg) (body : Fs) : Fs := fun s => match bCons f (bCons f' (bCons f'' bNil)) s with
  | .ok ds => match rgC3 ds with
    | some (i, c, n) => forL g body (rgC i c n) s
    | none => .stuck
  | .err c => .err c s
  | .stuck => .stuck
section
variable {X : Cx} {W : Wi} {pos : Pos}
theorem rpl3 {C : Ct} {R : Addr → Prop} {H : Hp} {d e f : D} {vs : List V} {S : List Addr} (h : RpL C R H [d, e, f] vs S) : ∃ v w x S1 S2 S3, vs = [v, w, x] ∧ Rp C R H d v S1 ∧ Rp C R H e w S2 ∧ Rp C R H f x S3 := by
  unfold RpL at h
  obtain ⟨v, vs', S1, S2, e1, e2, h1, h2⟩ := h
  obtain ⟨w, x, S3, S4, e3, h3, h4⟩ := rpl2 h2
  exact ⟨v, w, x, S1, S3, S4, by rw [e1, e3], h1, h3, h4⟩
theorem psd_forR3 {tg a a' a'' : Expr} {body : List Stmt} {f f' f'' : Fb} {is : List Nat} {g : Fg} {t : TG} {b : Fs} {p pos' : Pos} (hk : Keeps W is) (hp : PassesOwn (model X.prog X.w) X.A X.env X.xe) (hc : X.calm = true) (hgl : Gl X "range") (hm : X.mg "range" = none) (ha : PB X W a f) (ha' : PB X W a' f') (ha'' : PB X W a'' f'') (hg : PGd X tg is g t) (hb : PSsd X W body b)
    (h0 : starEach [a, a', a''] X.env = (false, eval a X.env) :: starEach [a', a''] X.env := by rfl) (h0' : starEach [a', a''] X.env = (false, eval a' X.env) :: starEach [a''] X.env := by rfl) (h0'' : starEach [a''] X.env = (false, eval a'' X.env) :: starEach [] X.env := by rfl)
    (hpl : (backTo pos' (starEach [a', a''] X.env)).any (·.1) = false := by rfl) (hs : ∀ x, foldedSetIterable (.Call (.Name "range" p) [a, a', a''] [] pos') X.env x = pure x := by intro _; rfl) : PSd X W (.For tg (.Call (.Name "range" p) [a, a', a''] [] pos') body [] pos) (sForR3 f f' f'' g b) := by
  have hA : PBs X W [a, a', a''] (bCons f (bCons f' (bCons f'' bNil))) := pbs_cons ha (pbs_cons ha' (pbs_cons ha'' pbs_nil h0'') h0') h0
  refine ps_imp (ps_for hp hc (pi_range3 hgl hm hA h0 hpl) hg.pg hb hs) fun D σ H h => ?_
  obtain ⟨s, R, S, rel, q⟩ := h
  refine ⟨s, R, S, rel, ?_⟩
  unfold sForR3 at q
  cases e : bCons f (bCons f' (bCons f'' bNil)) s with
  | ok ds =>
    simp only [e] at q
    intro vs H' T k r
    cases e2 : rgC3 ds with
    | none => simp only [e2] at q; exact q.elim
    | some icn =>
      obtain ⟨i, c, n⟩ := icn
      simp only [e2] at q
      unfold rgC3 at e2
      split at e2
      · rename_i i' j' c'
        obtain ⟨n', e3, e4⟩ := Option.map_eq_some_iff.mp e2
        cases e4
        obtain ⟨v, w, x, S1, S2, S3, rfl, r1, r2, r3⟩ := rpl3 r
        rw [r1.1, r2.1, r3.1]
        exact ⟨_, j', _, _, rfl, rgC?_ok e3, for_core hk hg.sem (rel.same k) (fun R' S' H' _ _ => walks_rgC) (PostS.later (Fr.same k fun a ha => .inl ha) q)⟩
      · cases e2
  | err c => simp only [e] at q; exact fun H' cl k hc => q σ H' R S cl (rel.same k) (Fr.same k fun a ha => .inl ha) hc
  | stuck => simp only [e] at q; exact q
end
end VL
/-! # VL16: values that change slots as parts of expressions and tests -/
namespace VL
open PySem PySem.Spec PyProof.Rows L2
theorem Fr.wide {R R' : Addr → Prop} {S S1 S' : List Addr} {H H' : Hp} (f : Fr R S H R' S' H') (h : ∀ a ∈ S, a ∈ S1) : Fr R S1 H R' S' H' :=
  ⟨fun a ha hs => f.out a ha fun z => hs (h a z), f.tup, f.rr, fun a ha => (f.rn a ha).imp id fun z => z.imp (h a) id, fun a ha => (f.sn a ha).imp (h a) id, f.dm⟩
section
variable {X : Cx} {W : Wi} {pos : Pos}
/-- a value, and what was made ahead of it -/
theorem held {C : Ct} {R R1 R2 : Addr → Prop} {H H1 H2 : Hp} {s1 : Slots} {σ : L2.St} {S S1 S2 T1 T2 : List Addr} {d1 : D} {v1 : V} (rel1 : Rel C W R1 H1 s1 σ S1) (r1 : Rp C R1 H1 d1 v1 T1) (n1 : T1.Nodup) (j1 : ∀ a ∈ T1, a ∉ S1 ∧ ¬ R1 a) (f1 : Fr R S H R1 (S1 ++ T1) H1)
    (f2 : Fr R1 S1 H1 R2 (S2 ++ T2) H2) : Rp C R2 H2 d1 v1 T1 ∧ Fr R S H R2 (S2 ++ T2) H2 ∧ (∀ a ∈ T1, a ∉ S2 ++ T2 ∧ ¬ R2 a) := by
  have own1 := r1.owns
  refine ⟨r1.fm (fun a ha => ⟨f2.rr a ha, f2.out a (rel1.dom a ha) fun z => rel1.off a z ha⟩) f2.tup fun a ha => f2.out a (own1 a ha).some (j1 a ha).1, f1.trans (f2.wide fun a ha => List.mem_append_left _ ha), fun a ha => ⟨fun z => ?_, fun z => ?_⟩⟩
  · exact (f2.sn a z).elim (j1 a ha).1 (own1 a ha).some
  · rcases f2.rn a z with z | z | z
    · exact (j1 a ha).2 z
    · exact (j1 a ha).1 z
    · exact (own1 a ha).some z
/-- made, then frozen -/
def oFz (f : Fo) : Fo := fun s => match f s with
  | .ok d s' => .ok (frz d) s'
  | .err c s' => .err c s'
  | .stuck => .stuck
theorem po_fz {e : Expr} {f : Fo} (h : PO X W e f) : PO X W e (oFz f) := pe_imp h fun σ H Q q => by
  obtain ⟨s, R, S, rel, p⟩ := q
  refine ⟨s, R, S, rel, ?_⟩
  unfold oFz at p
  cases e : f s with
  | ok d s' =>
    rw [e] at p
    intro v H' R' S' T rel' r n dj fr
    refine p v H' (fun a => R' a ∨ a ∈ T) S' [] ⟨rel'.sl.fm (fun a h => ⟨.inl h, rfl⟩) (fun _ _ h => h) (fun _ _ => rfl), rel'.nd, fun a ha h => h.elim (rel'.off a ha) (fun z => (dj a z).1 ha), fun a h => h.elim (rel'.dom a) (fun z => (r.owns a z).some), rel'.me⟩
      (r.frz (fun a h => .inl h) (fun a h => .inr h)) List.nodup_nil (by simp) ?_
    rw [List.append_nil]
    exact ⟨fr.out, fr.tup, fun a h => .inl (fr.rr a h), fun a h => h.elim (fr.rn a) (fun z => .inr (fr.sn a (List.mem_append_right _ z))), fun a ha => fr.sn a (List.mem_append_left _ ha), fr.dm⟩
  | err c s' => rw [e] at p; exact p
  | stuck => rw [e] at p; exact p
def Ro.bind (x : Ro) (k : D → Slots → Ro) : Ro := match x with
  | .ok d s => k d s
  | .err c s => .err c s
  | .stuck => .stuck
def Rb.ro (x : Rb D) (s : Slots) (k : D → Slots → Ro) : Ro := match x with
  | .ok d => k d s
  | .err c => .err c s
  | .stuck => .stuck
/-- an item of it that may be shared -/
def oIx (f : Fo) (k : Fb) : Fo := fun s => (f s).bind fun d s1 => (k s1).ro s1 fun kd s2 => match gIx d kd with
  | some e => if shr e = true then .ok e s2 else .stuck
  | none => .stuck
theorem tO_seqO {σ : L2.St} {H : Hp} {f : Fo} {k : D → Slots → Ro} {Q Q' : VK} (h : tO (ct X) W (fun s => (f s).bind k) σ H Q')
    (ok : ∀ d s' v R S H' R' S' T s, f s = .ok d s' → Rel (ct X) W R H s σ S → PostO (ct X) W R S σ H Q' (k d s') → Rel (ct X) W R' H' s' σ S' → Rp (ct X) R' H' d v T → T.Nodup → (∀ a ∈ T, a ∉ S' ∧ ¬ R' a) → Fr R S H R' (S' ++ T) H' → Q v H') : tO (ct X) W f σ H Q := by
  obtain ⟨s, R, S, rel, p⟩ := h
  refine ⟨s, R, S, rel, ?_⟩
  unfold Ro.bind at p
  cases e : f s with
  | ok d s' => simp only [e] at p; exact fun v H' R' S' T r q n g fr => ok d s' v R S H' R' S' T s e rel p r q n g fr
  | err c s' => simp only [e] at p; exact fun H' R' S' cl r fr hc => p H' R' S' cl r fr hc
  | stuck => simp only [e] at p; exact p
theorem po_ix {a b : Expr} {f : Fo} {k : Fb} (hu : X.A.units + 1 < cLine) (ha : PO X W a f) (hb : PB X W b k) (hs : PlainIx b := by exact fun _ _ => rfl) : PO X W (.Subscript a b pos) (oIx f k) := by
  obtain ⟨r, hr, hg⟩ := ixv (X := X) hu
  refine pe_imp (pe_ix hr ha hb hs) fun σ H Q h => ?_
  refine tO_seqO h fun d s1 v R S H1 R1 S1 T1 s0 es rel p rel1 r1 n1 j1 f1 => ?_
  refine ⟨s1, R1, S1, rel1, ?_⟩
  unfold Rb.ro at p
  cases e : k s1 with
  | ok kd =>
    simp only [e] at p
    intro w H2 T2 k2 r2
    cases e2 : gIx d kd with
    | none => simp only [e2] at p; exact p.elim
    | some d' =>
      simp only [e2] at p
      by_cases hsh : shr d' = true
      · rw [if_pos hsh] at p
        have rel2 := rel1.same k2
        refine hg d kd d' e2 R1 H2 v w T1 T2 Q rel2.dom (r1.same rel1.dom k2) r2 fun v' H3 T3 k3 r3 => ?_
        have z := r3.shr hsh
        subst z
        refine p v' H3 R1 S1 [] (rel2.same k3) r3 List.nodup_nil (by simp) ?_
        rw [List.append_nil]
        exact (f1.sub fun a ha => List.mem_append_left _ ha).trans (Fr.same (k2.trans k3) fun a ha => .inl ha)
      · rw [if_neg hsh] at p; exact p.elim
  | err c =>
    simp only [e] at p
    exact fun H' cl k2 hc => p H' R1 S1 cl (rel1.same k2) ((f1.sub fun a ha => List.mem_append_left _ ha).trans (Fr.same k2 fun a ha => .inl ha)) hc
  | stuck => simp only [e] at p; exact p
def oBin (g : D → D → Option D) (f h : Fo) : Fo := fun s => (f s).bind fun d1 s1 => (h s1).bind fun d2 s2 => match g d1 d2 with
  | some d => .ok d s2
  | none => .stuck
theorem tOpO_of {f : Value → Value → Sem Value} {g : D → D → Option D} (ho : OpV X f g) : ∃ r, OpR X f r ∧ ∀ {f1 f2 : Fo} {σ : L2.St} {H : Hp} {Q : VK}, tO (ct X) W (oBin g f1 f2) σ H Q → tOp r (tO (ct X) W f1) (tO (ct X) W f2) σ H Q := by
  obtain ⟨r, hr, hg⟩ := ho
  refine ⟨r, hr, fun {f1 f2 σ H Q} h => ?_⟩
  refine tO_seqO h fun d1 s1 v1 R S H1 R1 S1 T1 s0 es rel p rel1 r1 n1 j1 fr1 => ?_
  refine ⟨s1, R1, S1, rel1, ?_⟩
  unfold Ro.bind at p
  cases e : f2 s1 with
  | ok d2 s2 =>
    simp only [e] at p
    intro v2 H2 R2 S2 T2 rel2 r2 n2 j2 fr2
    obtain ⟨r1', fr, _⟩ := held rel1 r1 n1 j1 fr1 fr2
    cases e2 : g d1 d2 with
    | none => simp only [e2] at p; exact p.elim
    | some d =>
      simp only [e2] at p
      refine hg d1 d2 d e2 R2 H2 v1 v2 T1 T2 Q rel2.dom r1' r2 fun v H3 T3 k3 r3 n3 f3 => ?_
      refine p v H3 R2 S2 T3 (rel2.same k3) r3 n3 (fun a ha => ⟨fun z => (rel2.sl.owns a z).some (f3 a ha), fun z => rel2.dom a z (f3 a ha)⟩) ?_
      refine fr.trans ((Fr.same (S' := S2 ++ T3) k3 fun a ha => ?_))
      rcases List.mem_append.mp ha with z | z
      · exact .inl (List.mem_append_left _ z)
      · exact .inr (f3 a z)
  | err c s2 =>
    simp only [e] at p
    exact fun H' R' S' cl rel' fr' hc => p H' R' S' cl rel' (fr1.trans (fr'.wide fun a ha => List.mem_append_left _ ha)) hc
  | stuck => simp only [e] at p; exact p
theorem po_op {op : Operator} {g : D → D → Option D} {a b : Expr} {f1 f2 : Fo} (ho : OpV X (binaryOp op) g) (ha : PO X W a f1) (hb : PO X W b f2) : PO X W (.BinOp a op b pos) (oBin g f1 f2) := by
  obtain ⟨r, hr, hi⟩ := tOpO_of (W := W) ho
  exact pe_imp (pe_op hr ha hb) fun σ H Q h => hi h
theorem po_cmp {op : CmpOp} {g : D → D → Option D} {a b : Expr} {f1 f2 : Fo} (ho : OpV X (compareOp op) g) (ha : PO X W a f1) (hb : PO X W b f2) (hm : behindInMarks op b = false) : PO X W (.Compare a [op] [b] pos) (oBin g f1 f2) := by
  obtain ⟨r, hr, hi⟩ := tOpO_of (W := W) ho
  exact pe_imp (pe_cmpR hr ha hb hm) fun σ H Q h => hi h
/-! ### tests that change slots -/
inductive Rt where
  | ok (b : Bool) (s : Slots) | err (c : Str) (s : Slots) | stuck
abbrev Fto := Slots → Rt
def PostTO (C : Ct) (W : Wi) (R : Addr → Prop) (S : List Addr) (σ : L2.St) (H : Hp) (Q : Bool → Hp → Prop) : Rt → Prop
  | .ok b s' => ∀ H' R' S', Rel C W R' H' s' σ S' → Fr R S H R' S' H' → Q b H'
  | .err c s' => ∀ H' R' S' cl, Rel C W R' H' s' σ S' → Fr R S H R' S' H' → C.mg c = some (.ref cl) → W.w (.ref cl) none σ H'
  | .stuck => False
def tTO (C : Ct) (W : Wi) (f : Fto) : TT := fun σ H Q => ∃ s R S, Rel C W R H s σ S ∧ PostTO C W R S σ H Q (f s)
abbrev PTO (X : Cx) (W : Wi) (e : Expr) (f : Fto) : Prop := PT X e (tTO (ct X) W f)
def tsO (f : Fo) : Fto := fun s => match f s with
  | .ok (.bl b) s' => .ok b s'
  | .err c s' => .err c s'
  | _ => .stuck
def truO (f : Fo) : Fto := fun s => match f s with
  | .ok d s' => match truD d with
    | some b => .ok b s'
    | none => .stuck
  | .err c s' => .err c s'
  | .stuck => .stuck
theorem tO_test {f : Fo} {σ : L2.St} {H : Hp} {Q : Bool → Hp → Prop} (h : tTO (ct X) W (tsO f) σ H Q) : tO (ct X) W f σ H (fun x H' => ∃ k, x = .bl k ∧ Q k H') := by
  obtain ⟨s, R, S, rel, p⟩ := h
  refine ⟨s, R, S, rel, ?_⟩
  unfold tsO at p
  cases e : f s with
  | ok d s' =>
    rw [e] at p
    intro v H' R' S' T rel' r n j fr
    cases d with
    | bl b => exact ⟨b, r.1, p H' R' S' rel' (fr.sub fun a ha => List.mem_append_left _ ha)⟩
    | non => exact p.elim
    | int i => exact p.elim
    | str i => exact p.elim
    | nd _ _ _ => exact p.elim
  | err c s' => rw [e] at p; exact p
  | stuck => rw [e] at p; exact p
theorem pto_cmp {op : CmpOp} {g : D → D → Option D} {a b : Expr} {f1 f2 : Fo} (ho : OpV X (compareOp op) g) (ha : PO X W a f1) (hb : PO X W b f2) (hm : behindInMarks op b = false) : PTO X W (.Compare a [op] [b] pos) (tsO (oBin g f1 f2)) := by
  obtain ⟨r, hr, hi⟩ := tOpO_of (W := W) ho
  exact pt_imp (pt_cmpR hr ha hb hm) fun σ H Q h => hi (tO_test h)
theorem pto_tru {a : Expr} {f : Fo} (ha : PO X W a f) (he : ∀ whole, isTrue a X.env whole = (do let v ← whole; standAt a.pos; holding [v] (truthy v)) := by intro _; rfl) : PTO X W a (truO f) := pt_imp (pt_truth ha he) fun σ H Q h => by
  obtain ⟨s, R, S, rel, p⟩ := h
  refine ⟨s, R, S, rel, ?_⟩
  unfold truO at p
  cases e : f s with
  | ok d s' =>
    rw [e] at p
    intro v H' R' S' T rel' r n j fr
    cases e2 : truD d with
    | none => simp only [e2] at p; exact p.elim
    | some b => simp only [e2] at p; exact ⟨b, r.tru e2, p H' R' S' rel' (fr.sub fun a ha => List.mem_append_left _ ha)⟩
  | err c s' => rw [e] at p; exact p
  | stuck => rw [e] at p; exact p
def ntO (f : Fto) : Fto := fun s => match f s with
  | .ok b s' => .ok (!b) s'
  | .err c s' => .err c s'
  | .stuck => .stuck
theorem pto_not {a : Expr} {f : Fto} (ha : PTO X W a f) : PTO X W (.UnaryOp .Not a pos) (ntO f) := pt_imp (pt_not ha) fun σ H Q h => by
  obtain ⟨s, R, S, rel, p⟩ := h
  refine ⟨s, R, S, rel, ?_⟩
  unfold ntO at p
  cases e : f s with
  | ok d s' => rw [e] at p; exact p
  | err c s' => rw [e] at p; exact p
  | stuck => rw [e] at p; exact p
def sIfO (c : Fto) (f g : Fs) : Fs := fun s => match c s with
  | .ok b s' => if b = true then f s' else g s'
  | .err e s' => .err e s'
  | .stuck => .stuck
theorem psd_ifO {c : Expr} {a b : List Stmt} {fc : Fto} {f g : Fs} (hc : PTO X W c fc) (ha : PSsd X W a f) (hb : PSsd X W b g) : PSd X W (.If c a b pos) (sIfO fc f g) := ps_imp (ps_if hc ha hb) fun D σ H h => by
  obtain ⟨s, R, S, rel, p⟩ := h
  refine ⟨s, R, S, rel, ?_⟩
  unfold sIfO at p
  cases e : fc s with
  | ok d s' =>
    rw [e] at p
    intro H' R' S' rel' fr
    cases d with
    | true => rw [if_pos rfl]; exact ⟨s', R', S', rel', PostS.later fr (by simpa using p)⟩
    | false => rw [if_neg Bool.false_ne_true]; exact ⟨s', R', S', rel', PostS.later fr (by simpa using p)⟩
  | err c s' => rw [e] at p; exact fun H' R' S' cl rel' fr hc => p σ H' R' S' cl rel' fr hc
  | stuck => rw [e] at p; exact p.elim
end
end VL
/-! # VL17: displays of what is moved, pops as values, appending what is made -/
namespace VL
open PySem PySem.Spec PyProof.Rows L2
section
variable {C : Ct} {W : Wi} {R : Addr → Prop} {H : Hp}
/-- as Lens.store, some of the place's cells handed out -/
theorem Lens.storeX {s : Slots} {σ : L2.St} {S T : List Addr} {i : Nat} {π : List Nat} {d e : D} {l : Addr} {o : HO} {H2 : Hp} {P : List Addr → Prop} (rel : Rel C W R H s σ S) (h : Lens C R H s σ S i π d (.ref l)) (k : Same H H2) (hT : ∀ a ∈ T, a ∉ S ∧ ¬ R a)
    (hd : ∀ Sd, Rp C R H d (.ref l) Sd → l ∈ Sd) (re : ∀ Sd, Rp C R H d (.ref l) Sd → Sd.Nodup → (∀ a ∈ Sd, a ∉ T) → (∀ a ∈ Sd, ¬ R a) → ∃ Sn Tx, Rp C R (upd H2 l o) e (.ref l) Sn ∧ (Sn ++ Tx).Nodup ∧ (∀ a ∈ Sn ++ Tx, a ∈ Sd ∨ a ∈ T) ∧ P Tx) :
    ∃ S2 Tx, Rel C W R (upd H2 l o) (putAt s i π e) σ S2 ∧ Fr R (S ++ T) H R (S2 ++ Tx) (upd H2 l o) ∧ P Tx ∧ Tx.Nodup ∧ ∀ a ∈ Tx, a ∉ S2 ∧ ¬ R a := by
  obtain ⟨d0, v0, e1, e2, e3, Sd, Sr, r, p, u⟩ := h
  have nd := p.nodup_iff.mp rel.nd
  have na := List.nodup_append.mp nd
  have hl := hd Sd r
  have inS : ∀ a ∈ Sd, a ∈ S := fun a ha => p.mem_iff.mpr (List.mem_append_left _ ha)
  have hlS : l ∈ S := inS l hl
  have hoff : ∀ a ∈ Sd, ¬ R a := fun a ha => rel.off a (inS a ha)
  obtain ⟨Sn, Tx, re1, re2, re3, hP⟩ := re Sd r na.1 (fun a ha z => (hT a z).1 (inS a ha)) hoff
  have nb := List.nodup_append.mp re2
  have hown := r.owns l hl
  have hmut : ∀ xs, ¬ Rd H l (.tup xs) := fun xs z => hown.noTup z
  have nR : ∀ a, R a → a ≠ l := fun a ha e => rel.off l hlS (e ▸ ha)
  have ch : Chg R H Sr R (upd H2 l o) := ⟨fun a ha => ⟨ha, by rw [upd_ne (nR a ha)]; exact at_of k (rel.dom a ha)⟩, fun a xs hx => by
      have ne : a ≠ l := fun z => hmut xs (z ▸ hx)
      have := same_tups k a xs hx
      rcases this with h | ⟨ob, h⟩
      · exact .inl (by rw [upd_ne ne]; exact h)
      · exact .inr ⟨ob, by rw [upd_ne ne]; exact h⟩, fun a ha => by
      have ne : a ≠ l := fun z => na.2.2 l hl a ha z.symm
      rw [upd_ne ne]
      exact at_of k (rel.sl.owns a (p.mem_iff.mpr (List.mem_append_right _ ha))).some⟩
  obtain ⟨S2, q1, q2⟩ := u (fun z => by rw [z] at hl; cases hl) R (upd H2 l o) e Sn ch re1
  have dm : ∀ a, H a ≠ none → upd H2 l o a ≠ none := fun a ha => by
    by_cases z : a = l
    · subst z; rw [upd_same]; exact fun z => by cases z
    · rw [upd_ne z, at_of k ha]; exact ha
  have m0 : ∀ a ∈ Sn ++ Tx, a ∈ S ∨ a ∈ T := fun a ha => (re3 a ha).imp (inS a) id
  have m : ∀ a ∈ S2, a ∈ S ∨ a ∈ T := fun a ha => by
    rcases List.mem_append.mp (q2.mem_iff.mp ha) with z | z
    · exact m0 a (List.mem_append_left _ z)
    · exact .inl (p.mem_iff.mpr (List.mem_append_right _ z))
  have notSr : ∀ a ∈ Sn ++ Tx, a ∉ Sr := fun a ha z => by
    rcases re3 a ha with w | w
    · exact na.2.2 a w a z rfl
    · exact (hT a w).1 (p.mem_iff.mpr (List.mem_append_right _ z))
  refine ⟨S2, Tx, ⟨q1, ?_, fun a ha hr => ?_, fun a ha => dm a (rel.dom a ha), rel.me⟩, ⟨fun a ha hs => ?_, ch.ht, fun _ h => h, fun _ h => .inl h, fun a ha => .inl (List.mem_append.mpr ?_), dm⟩, hP, nb.2.1, fun a ha => ⟨fun z => ?_, fun hr => ?_⟩⟩
  · refine q2.nodup_iff.mpr (List.nodup_append.mpr ⟨nb.1, na.2.1, fun a ha b hb e => ?_⟩)
    subst e
    exact notSr a (List.mem_append_left _ ha) hb
  · rcases m a ha with z | z
    · exact rel.off a z hr
    · exact (hT a z).2 hr
  · have ne : a ≠ l := fun z => hs (z ▸ List.mem_append_left _ hlS)
    rw [upd_ne ne, at_of k ha]
  · rcases List.mem_append.mp ha with z | z
    · exact m a z
    · exact m0 a (List.mem_append_right _ z)
  · rcases List.mem_append.mp (q2.mem_iff.mp z) with w | w
    · exact nb.2.2 a w a ha rfl
    · exact notSr a (List.mem_append_right _ ha) w
  · rcases m0 a (List.mem_append_right _ ha) with z | z
    · exact rel.off a z hr
    · exact (hT a z).2 hr
theorem RpL.erase : ∀ {ds : List D} {vs : List V} {S : List Addr} {j : Nat} {d : D}, RpL C R H ds vs S → ds[j]? = some d → ∃ v Sd Sr, vs[j]? = some v ∧ Rp C R H d v Sd ∧ S.Perm (Sd ++ Sr) ∧ RpL C R H (ds.eraseIdx j) (vs.eraseIdx j) Sr
  | [], _, _, _, _, _, e => by simp at e
  | d :: ds, _, _, 0, d', h, e => by
    unfold RpL at h
    obtain ⟨v, vs', S1, S2, e1, e2, h1, h2⟩ := h
    simp at e
    subst e e1 e2
    exact ⟨v, S1, S2, rfl, h1, List.Perm.refl _, h2⟩
  | d :: ds, _, _, n + 1, d', h, e => by
    unfold RpL at h
    obtain ⟨v, vs', S1, S2, e1, e2, h1, h2⟩ := h
    subst e1 e2
    obtain ⟨w, Sd, Sr, q1, q2, q3, q4⟩ := RpL.erase (j := n) h2 (by simpa using e)
    refine ⟨w, Sd, S1 ++ Sr, by simpa using q1, q2, ?_, RpL.cons h1 q4⟩
    refine (List.Perm.append_left S1 q3).trans ?_
    rw [← List.append_assoc, ← List.append_assoc]
    exact List.Perm.append_right Sr List.perm_append_comm
end
/-! ### pops as values -/
def oLst' (p : Fpt) (k : Nat → List Nat → List D → Ro) (s : Slots) : Ro := match p s with
  | .ok (i, π, .nd .lst true ds) => k i π ds
  | .err c => .err c s
  | _ => .stuck
def popRo (s : Slots) (i : Nat) (π : List Nat) (ds : List D) (j : Nat) : Ro := match ds[j]? with
  | some d => if ds.length ≤ sizeLine then .ok d (putAt s i π (.nd .lst true (ds.eraseIdx j))) else .stuck
  | none => .stuck
/-- p.pop() -/
def oPop0 (p : Fpt) : Fo := fun s => oLst' p (fun i π ds => popRo s i π ds (ds.length - 1)) s
/-- p.pop(e) -/
def oPop1 (p : Fpt) (f : Fb) : Fo := fun s => oLst' p (fun i π ds => match f s with
  | .ok (.int z) => match ixN ds.length z with
    | some j => popRo s i π ds j
    | none => .stuck
  | .err c => .err c s
  | _ => .stuck) s
section
variable {X : Cx} {W : Wi} {pos : Pos}
theorem tPt_lstO {σ : L2.St} {H : Hp} {p : Fpt} {k : Nat → List Nat → List D → Ro} {Q Q' : VK} {s : Slots} {R : Addr → Prop} {S : List Addr} (rel : Rel (ct X) W R H s σ S) (q : PostO (ct X) W R S σ H Q' (oLst' p k s))
    (ok : ∀ i π ds l vs S' H1, Same H H1 → PostO (ct X) W R S σ H Q' (k i π ds) → Lens (ct X) R H1 s σ S i π (.nd .lst true ds) (.ref l) → H1 l = some (.lst vs) → RpL (ct X) R H1 ds vs S' → Q (.ref l) H1) : tPt (ct X) W p σ H Q := by
  refine ⟨s, R, S, rel, ?_⟩
  unfold oLst' at q
  cases e : p s with
  | ok x =>
    rw [e] at q
    intro v H' sm L
    obtain ⟨i, π, d⟩ := x
    cases d with
    | nd kd m ds =>
      cases kd with
      | lst =>
        cases m with
        | true =>
          obtain ⟨l, vs, S', rfl, hv, rl⟩ := Lens.lst L
          exact ok i π ds l vs S' H' sm q L hv rl
        | false => exact q.elim
      | tup => exact q.elim
      | dct _ => exact q.elim
      | ins _ _ => exact q.elim
    | non => exact q.elim
    | bl _ => exact q.elim
    | int _ => exact q.elim
    | str _ => exact q.elim
  | err c => rw [e] at q; exact fun H' cl sm hc => q H' R S cl (rel.same sm) (Fr.same sm fun a ha => .inl ha) hc
  | stuck => rw [e] at q; exact q
theorem pop_end {σ : L2.St} {H H1 H2 : Hp} {Q : VK} {s : Slots} {R : Addr → Prop} {S : List Addr} {i : Nat} {π : List Nat} {ds : List D} {j : Nat} {l : Addr} {vs : List V} {S' : List Addr} (rel : Rel (ct X) W R H s σ S) (k1 : Same H H1) (k2 : Same H1 H2) (L : Lens (ct X) R H1 s σ S i π (.nd .lst true ds) (.ref l)) (hv : H1 l = some (.lst vs)) (rl : RpL (ct X) R H1 ds vs S')
    (q : PostO (ct X) W R S σ H Q (popRo s i π ds j)) : ∃ y, vs[j]? = some y ∧ vs.length ≤ sizeLine ∧ Q y (upd H2 l (.lst (vs.eraseIdx j))) := by
  unfold popRo at q
  cases e : ds[j]? with
  | none => simp only [e] at q; exact q.elim
  | some d =>
    simp only [e] at q
    by_cases hl : ds.length ≤ sizeLine
    · rw [if_pos hl] at q
      have rel1 := rel.same k1
      obtain ⟨y, _, _, hy, _⟩ := RpL.erase rl e
      refine ⟨y, hy, by rw [← rl.length]; exact hl, ?_⟩
      obtain ⟨S2, Tx, r2, f2, rx, nx, dx⟩ := Lens.storeX (T := []) (e := .nd .lst true (ds.eraseIdx j)) (o := .lst (vs.eraseIdx j)) (P := fun Tx => Rp (ct X) R (upd H2 l (.lst (vs.eraseIdx j))) d y Tx) rel1 L k2 (by simp) (fun Sd r => by
          obtain ⟨a, vs', S', e, _, _, e2⟩ := rp_lstO r
          cases e
          rw [e2]; simp) fun Sd r nd dj off => by
        obtain ⟨a, vs', S', e', hv', rl', e2⟩ := rp_lstO r
        cases e'
        rw [hv] at hv'
        cases hv'
        subst e2
        have na := List.nodup_cons.mp nd
        have offl : ¬ R l := off l (by simp)
        have nt : ∀ xs, ¬ Rd H2 l (.tup xs) := noTup_same k2 (.inl ⟨_, hv⟩)
        have rl2 := rl'.same rel1.dom k2
        obtain ⟨y', Sd, Sr, hy', ry, pm, re⟩ := RpL.erase rl2 e
        rw [hy] at hy'
        cases hy'
        have nl : l ∉ Sd ∧ l ∉ Sr := ⟨fun z => na.1 (pm.mem_iff.mpr (List.mem_append_left _ z)), fun z => na.1 (pm.mem_iff.mpr (List.mem_append_right _ z))⟩
        have np := List.nodup_append.mp (pm.nodup_iff.mp na.2)
        refine ⟨l :: Sr, Sd, ?_, ?_, fun a ha => .inl ?_, ?_⟩
        · unfold Rp
          exact ⟨l, _, Sr, rfl, ⟨upd_same, rfl⟩, re.upd nl.2 offl nt⟩
        · rw [List.cons_append]
          refine List.nodup_cons.mpr ⟨fun z => (List.mem_append.mp z).elim nl.2 nl.1, List.nodup_append.mpr ⟨np.2.1, np.1, fun a ha b hb e => ?_⟩⟩
          exact np.2.2 b hb a ha e.symm
        · rw [List.cons_append] at ha
          rcases List.mem_cons.mp ha with rfl | ha
          · simp
          · refine List.mem_cons_of_mem _ (pm.mem_iff.mpr ?_)
            rcases List.mem_append.mp ha with z | z
            · exact List.mem_append_right _ z
            · exact List.mem_append_left _ z
        · exact ry.fm (fun a ha => ⟨ha, upd_ne (by intro e; subst e; exact offl ha)⟩) (tupS_upd nt) fun a ha => upd_ne (by intro e; subst e; exact nl.1 ha)
      exact q y _ R S2 Tx r2 rx nx dx ((Fr.same k1 fun a ha => .inl ha).trans (f2.fresh (by simp)))
    · rw [if_neg hl] at q; exact q.elim
theorem po_pop1 {o e : Expr} {p : Fpt} {f : Fb} {apos cpos : Pos} (ho : PPt X W o p) (he : PB X W e f)
    (hs0 : starEach [e] X.env = (false, eval e X.env) :: starEach [] X.env := by rfl)
    (hbase : attributeBase o "pop" X.env (eval o X.env) = eval o X.env := by rfl)
    (hfew : ((backTo cpos (starEach [e] X.env)).all (fun x => !x.1) && (backToKw cpos (keywordEach [] X.env)).all (fun x => x.1.isSome)
      && decide ([e].length + ([] : List Keyword).length + (if ([] : List Keyword).isEmpty then 0 else 1) < 30)) = true := by rfl)
    (hline : (apos.endLine == cpos.line) = true := by rfl) (hplain : (backTo cpos (starEach [] X.env)).any (·.1) = false := by rfl) : PO X W (.Call (.Attribute o "pop" apos) [e] [] cpos) (oPop1 p f) := by
  refine pe_imp (pe_bm PySem.F.plainAttrs_list PySem.F.slot_list_pop PySem.F.type_list_pop mt_popAt ho (pa_cons he pa_nil hs0) hbase hfew hline hs0 hplain) fun σ H Q h => ?_
  obtain ⟨s, R, S, rel, q⟩ := h
  refine tPt_lstO rel q fun i π ds l vs S' H1 k1 q1 L hv rl => ⟨.inl ⟨rfl, _, .inl (.inl hv)⟩, ?_⟩
  have rel1 := rel.same k1
  refine ⟨s, R, S, rel1, ?_⟩
  cases e1 : f s with
  | ok d =>
    simp only [e1] at q1
    intro v H2 T k2 r
    cases d with
    | int z =>
      cases e2 : ixN ds.length z with
      | none => simp only [e2] at q1; exact q1.elim
      | some j =>
        simp only [e2] at q1
        obtain ⟨y, hy, hl, q2⟩ := pop_end rel k1 k2 L hv rl q1
        obtain ⟨i1, i2, i3, i4⟩ := ixN_seq e2
        have hlen := rl.length
        have hs24 : (sizeLine : Nat) < 2 ^ 63 := by decide
        exact ⟨l, vs, z, j, y, rfl, by rw [r.1], k2 _ _ hv, by omega, by omega, by rw [← hlen]; exact i1, hy, q2⟩
    | nd _ _ _ => exact q1.elim
    | non => exact q1.elim
    | bl _ => exact q1.elim
    | str _ => exact q1.elim
  | err c => simp only [e1] at q1; exact fun H' cl sm hc => q1 H' R S cl (rel.same (k1.trans sm)) (Fr.same (k1.trans sm) fun a ha => .inl ha) hc
  | stuck => simp only [e1] at q1; exact q1
theorem po_pop0 {o : Expr} {p : Fpt} {apos cpos : Pos} (ho : PPt X W o p)
    (hbase : attributeBase o "pop" X.env (eval o X.env) = eval o X.env := by rfl) (hline : (apos.endLine == cpos.line) = true := by rfl) : PO X W (.Call (.Attribute o "pop" apos) [] [] cpos) (oPop0 p) := by
  refine pe_imp (pe_bm0 PySem.F.plainAttrs_list PySem.F.slot_list_pop PySem.F.type_list_pop mt_pop ho hbase hline) fun σ H Q h => ?_
  obtain ⟨s, R, S, rel, q⟩ := h
  refine tPt_lstO rel q fun i π ds l vs S' H1 k1 q1 L hv rl => ⟨.inl ⟨rfl, _, .inl (.inl hv)⟩, ?_⟩
  obtain ⟨y, hy, hl, q2⟩ := pop_end rel k1 (Same.refl H1) L hv rl q1
  rw [rl.length] at hy q2
  refine ⟨l, vs, y, rfl, rfl, hv, hy, ?_⟩
  rw [← PyProof.Rows.Copied.eraseIdx_last]
  exact q2
/-- p.clear(), a list -/
def sClrL (p : Fpt) : Fs := fun s => sLst p (fun i π _ => .nx (putAt s i π (.nd .lst true []))) s
theorem psd_clrL {o : Expr} {p : Fpt} {apos cpos : Pos} (ho : PPt X W o p) (hbase : attributeBase o "clear" X.env (eval o X.env) = eval o X.env := by rfl) (hline : (apos.endLine == cpos.line) = true := by rfl)
    (hs : swapsWith (.Call (.Attribute o "clear" apos) [] [] cpos) none pos.line X.env = pure false := by rfl) : PSd X W (.Expr (.Call (.Attribute o "clear" apos) [] [] cpos) pos) (sClrL p) := by
  refine ps_imp (ps_expr (pe_bm0 PySem.F.plainAttrs_list PySem.F.slot_list_clear PySem.F.type_list_clear mt_clear ho hbase hline) hs) fun D σ H h => ?_
  obtain ⟨s, R, S, rel, q⟩ := h
  refine tPt_lst rel q fun i π ds l vs S' H1 k1 q1 L hv rl => ⟨.inl ⟨rfl, _, .inl (.inl hv)⟩, l, vs, rfl, rfl, hv, ?_⟩
  obtain ⟨S2, r2, f2⟩ := store_lst (T := []) (es := []) (ws := []) (rel.same k1) L (Same.refl H1) hv (by simp) (by simp) fun S' rl' nd' dj' => ⟨[], RpL.nil, List.nodup_nil, by simp⟩
  exact q1 σ _ R S2 r2 ((Fr.same k1 fun a ha => .inl ha).trans (f2.fresh (by simp)))
/-- a statement by one of two readings, as its state asks -/
theorem psd_or {st : Stmt} {f g h : Fs} (hf : PSd X W st f) (hg : PSd X W st g) (e : ∀ s, h s = f s ∨ h s = g s) : PSd X W st h := by
  refine ⟨fun pins s σ H D I q => ?_⟩
  obtain ⟨t, R, S, rel, p⟩ := q
  rcases e t with z | z
  · exact hf.run pins s σ H D I ⟨t, R, S, rel, by rw [← z]; exact p⟩
  · exact hg.run pins s σ H D I ⟨t, R, S, rel, by rw [← z]; exact p⟩
def sClr (p : Fpt) : Fs := fun s => match p s with
  | .ok (_, _, .nd .lst _ _) => sClrL p s
  | _ => sClrD p s
theorem psd_clr {o : Expr} {p : Fpt} {apos cpos : Pos} (ho : PPt X W o p) (hbase : attributeBase o "clear" X.env (eval o X.env) = eval o X.env := by rfl) (hline : (apos.endLine == cpos.line) = true := by rfl)
    (hs : swapsWith (.Call (.Attribute o "clear" apos) [] [] cpos) none pos.line X.env = pure false := by rfl) : PSd X W (.Expr (.Call (.Attribute o "clear" apos) [] [] cpos) pos) (sClr p) :=
  psd_or (psd_clrL ho hbase hline hs) (psd_clrD ho hbase hline hs) fun s => by
    unfold sClr
    split
    · exact .inl rfl
    · exact .inr rfl
/-! ### several values, as they may change slots -/
inductive Ros where
  | ok (ds : List D) (s : Slots) | err (c : Str) (s : Slots) | stuck
def PostOs (C : Ct) (W : Wi) (R : Addr → Prop) (S : List Addr) (σ : L2.St) (H : Hp) (Q : List V → Hp → Prop) : Ros → Prop
  | .ok ds s' => ∀ vs H' R' S' T, Rel C W R' H' s' σ S' → RpL C R' H' ds vs T → T.Nodup → (∀ a ∈ T, a ∉ S' ∧ ¬ R' a) → Fr R S H R' (S' ++ T) H' → Q vs H'
  | .err c s' => ∀ H' R' S' cl, Rel C W R' H' s' σ S' → Fr R S H R' S' H' → C.mg c = some (.ref cl) → W.w (.ref cl) none σ H'
  | .stuck => False
abbrev Fos := Slots → Ros
def tOs (C : Ct) (W : Wi) (f : Fos) : TA := fun σ H Q => ∃ s R S, Rel C W R H s σ S ∧ PostOs C W R S σ H Q (f s)
abbrev POs (X : Cx) (W : Wi) (es : List Expr) (f : Fos) : Prop := PA X es (tOs (ct X) W f)
def osNil : Fos := fun s => .ok [] s
def osCons (f : Fo) (g : Fos) : Fos := fun s => match f s with
  | .ok d s1 => (match g s1 with
    | .ok ds s2 => .ok (d :: ds) s2
    | .err c s2 => .err c s2
    | .stuck => .stuck)
  | .err c s1 => .err c s1
  | .stuck => .stuck
theorem pos_nil : POs X W [] osNil := pa_imp pa_nil fun σ H Q h => by
  obtain ⟨s, R, S, rel, p⟩ := h
  exact p [] H R S [] rel RpL.nil List.nodup_nil (by simp) (by rw [List.append_nil]; exact Fr.refl)
theorem pos_cons {e : Expr} {es : List Expr} {f : Fo} {g : Fos} (ha : PO X W e f) (hr : POs X W es g) (hs : starEach (e :: es) X.env = (false, eval e X.env) :: starEach es X.env := by rfl) : POs X W (e :: es) (osCons f g) := by
  refine pa_imp (pa_cons ha hr hs) fun σ H Q h => ?_
  obtain ⟨s, R, S, rel, p⟩ := h
  refine ⟨s, R, S, rel, ?_⟩
  unfold osCons at p
  cases e1 : f s with
  | ok d s1 =>
    simp only [e1] at p
    intro v H1 R1 S1 T1 rel1 r1 n1 j1 f1
    refine ⟨s1, R1, S1, rel1, ?_⟩
    cases e2 : g s1 with
    | ok ds s2 =>
      simp only [e2] at p
      intro vs H2 R2 S2 T2 rel2 r2 n2 j2 f2
      obtain ⟨r1', fr, dj⟩ := held rel1 r1 n1 j1 f1 f2
      refine p _ H2 R2 S2 (T1 ++ T2) rel2 (RpL.cons r1' r2) (List.nodup_append.mpr ⟨n1, n2, fun a ha b hb e => ?_⟩) (fun a ha => ?_) ?_
      · subst e; exact (dj a ha).1 (List.mem_append_right _ hb)
      · rcases List.mem_append.mp ha with z | z
        · exact ⟨fun w => (dj a z).1 (List.mem_append_left _ w), (dj a z).2⟩
        · exact j2 a z
      · refine ⟨fr.out, fr.tup, fr.rr, fr.rn, fun a ha => ?_, fr.dm⟩
        rcases List.mem_append.mp ha with z | z
        · exact fr.sn a (List.mem_append_left _ z)
        · rcases List.mem_append.mp z with z | z
          · exact f1.sn a (List.mem_append_right _ z)
          · exact fr.sn a (List.mem_append_right _ z)
    | err c s2 =>
      simp only [e2] at p
      exact fun H' R' S' cl rel' fr' hc => p H' R' S' cl rel' (f1.trans (fr'.wide fun a ha => List.mem_append_left _ ha)) hc
    | stuck => simp only [e2] at p; exact p
  | err c s1 => simp only [e1] at p; exact p
  | stuck => simp only [e1] at p; exact p
def oTup (g : Fos) : Fo := fun s => match g s with
  | .ok ds s' => if ds.length ≤ sizeLine then .ok (.tup ds) s' else .stuck
  | .err c s' => .err c s'
  | .stuck => .stuck
def oLst (g : Fos) : Fo := fun s => match g s with
  | .ok ds s' => if ds.length ≤ sizeLine then .ok (.lst true ds) s' else .stuck
  | .err c s' => .err c s'
  | .stuck => .stuck
theorem po_tup {es : List Expr} {g : Fos} {x1} (h : POs X W es g) : PO X W (.Tuple es x1 pos) (oTup g) := by
  refine pe_imp (pe_tup h) fun σ H Q q => ?_
  obtain ⟨s, R, S, rel, p⟩ := q
  refine ⟨s, R, S, rel, ?_⟩
  unfold oTup at p
  cases e1 : g s with
  | ok ds s1 =>
    simp only [e1] at p
    intro vs H1 R1 S1 T1 rel1 r1 n1 j1 f1
    by_cases hl : ds.length ≤ sizeLine
    · rw [if_pos hl] at p
      refine ⟨by rw [← r1.length]; exact hl, fun a ha => ?_⟩
      have z := rp_newT (H := H1) rel1.dom (Same.refl H1) ha r1
      refine p _ _ R1 S1 T1 (rel1.same z.1) z.2 n1 j1 (f1.trans (Fr.same z.1 fun a ha => .inl ha))
    · rw [if_neg hl] at p; exact p.elim
  | err c s1 => simp only [e1] at p; exact p
  | stuck => simp only [e1] at p; exact p
theorem po_lst {es : List Expr} {g : Fos} (h : POs X W es g) : PO X W (.List es pos) (oLst g) := by
  refine pe_imp (pe_lst h) fun σ H Q q => ?_
  obtain ⟨s, R, S, rel, p⟩ := q
  refine ⟨s, R, S, rel, ?_⟩
  unfold oLst at p
  cases e1 : g s with
  | ok ds s1 =>
    simp only [e1] at p
    intro vs H1 R1 S1 T1 rel1 r1 n1 j1 f1
    by_cases hl : ds.length ≤ sizeLine
    · rw [if_pos hl] at p
      refine ⟨by rw [← r1.length]; exact hl, fun l hl' => ?_⟩
      have k := same_upd' (o := .lst vs) hl'
      have hlS : l ∉ S1 := fun z => (rel1.sl.owns l z).some hl'
      have hlT : l ∉ T1 := fun z => (r1.owns l z).some hl'
      have hlR : ¬ R1 l := fun z => rel1.dom l z hl'
      refine p _ _ R1 S1 (l :: T1) (rel1.same k) ?_ (List.nodup_cons.mpr ⟨hlT, n1⟩) (fun a ha => ?_) (f1.trans ⟨fun a ha _ => at_of k ha, same_tups k, fun _ h => h, fun _ h => .inl h, fun a ha => ?_, fun a ha => by rw [at_of k ha]; exact ha⟩)
      · unfold Rp
        exact ⟨l, vs, T1, rfl, ⟨upd_same, rfl⟩, r1.same rel1.dom k⟩
      · rcases List.mem_cons.mp ha with rfl | ha
        · exact ⟨hlS, hlR⟩
        · exact j1 a ha
      · rcases List.mem_append.mp ha with z | z
        · exact .inl (List.mem_append_left _ z)
        · rcases List.mem_cons.mp z with rfl | z
          · exact .inr hl'
          · exact .inl (List.mem_append_right _ z)
    · rw [if_neg hl] at p; exact p.elim
  | err c s1 => simp only [e1] at p; exact p
  | stuck => simp only [e1] at p; exact p
/-! ### x.append(e), x a name, e what may change other slots -/
def sAppN (i : Nat) (f : Fo) : Fs := fun s => match s[i]? with
  | some (some (.nd .lst true _)) => sO f (fun d s => match s[i]? with
    | some (some (.nd .lst true ds)) => if ds.length < sizeLine then .nx (s.set i (some (.nd .lst true (ds ++ [d])))) else .stuck
    | _ => .stuck) s
  | _ => .stuck
theorem psd_appN {e : Expr} {f : Fo} {apos cpos npos : Pos} (i : Nat) {x : Str} (hN : X.N[i]? = some x := by rfl) (hv : Vis X.env.scope x := by first | exact Or.inl rfl | exact Or.inr (Or.inl rfl) | exact Or.inr (Or.inr rfl)) (he : PO X W e f) (hd : (x == ("__debug__" : Str)) = false := by decide)
    (hcd : (x == ("__classdict__" : Str)) = false := by decide)
    (hs0 : starEach [e] X.env = (false, eval e X.env) :: starEach [] X.env := by rfl)
    (hbase : attributeBase (.Name x npos) "append" X.env (eval (.Name x npos) X.env) = eval (.Name x npos) X.env := by rfl)
    (hfew : ((backTo cpos (starEach [e] X.env)).all (fun x => !x.1) && (backToKw cpos (keywordEach [] X.env)).all (fun x => x.1.isSome)
      && decide ([e].length + ([] : List Keyword).length + (if ([] : List Keyword).isEmpty then 0 else 1) < 30)) = true := by rfl)
    (hline : (apos.endLine == cpos.line) = true := by rfl) (hplain : (backTo cpos (starEach [] X.env)).any (·.1) = false := by rfl)
    (hs : swapsWith (.Call (.Attribute (.Name x npos) "append" apos) [e] [] cpos) none pos.line X.env = pure false := by rfl) : PSd X W (.Expr (.Call (.Attribute (.Name x npos) "append" apos) [e] [] cpos) pos) (sAppN i f) := by
  refine ps_imp (ps_expr (pe_bm PySem.F.plainAttrs_list PySem.F.slot_list_append PySem.F.type_list_append mt_append (pe_var hN hv hd hcd) (pa_cons he pa_nil hs0) hbase hfew hline hs0 hplain) hs) fun D σ H h => ?_
  obtain ⟨s, R, S, rel, q⟩ := h
  unfold sAppN at q
  split at q
  · rename_i ds0 e0
    obtain ⟨v, ev, L⟩ := Lens.name rel e0
    obtain ⟨l, vs, S', rfl, hv, rl⟩ := Lens.lst L
    refine ⟨.ref l, ev, .inl ⟨rfl, _, .inl (.inl hv)⟩, ?_⟩
    refine tO_seq (f := f) ⟨s, R, S, rel, q⟩ fun d s' w R0 S0 H0 H1 R1 S1 T1 p rel1 r1 n1 j1 f1 => ?_
    split at p
    · rename_i ds e1
      obtain ⟨v', ev', L1⟩ := Lens.name rel1 e1
      have evv : v' = .ref l := by
        rw [ev] at ev'
        cases ev'; rfl
      subst evv
      obtain ⟨l', vs1, S1', el, hv1, rl1⟩ := Lens.lst L1
      cases el
      by_cases hl : ds.length < sizeLine
      · rw [if_pos hl] at p
        refine ⟨l, vs1, w, rfl, rfl, hv1, by rw [← rl1.length]; exact hl, ?_⟩
        have hlS : l ∈ S1 := by
          obtain ⟨d0, v0, _, _, _, Sd, Sr, r, pm, _⟩ := L1
          obtain ⟨a, vs', S2, e, _, _, e2⟩ := rp_lstO r
          cases e
          exact pm.mem_iff.mpr (List.mem_append_left _ (by rw [e2]; simp))
        obtain ⟨S2, r2, f2⟩ := store_lst (es := ds ++ [d]) (ws := vs1 ++ [w]) rel1 L1 (Same.refl H1) hv1 j1 (fun z => (j1 l z).1 hlS) fun S' rl' nd' dj' => by
          have one : RpL (ct X) R1 H1 [d] [w] (T1 ++ []) := RpL.cons r1 RpL.nil
          rw [List.append_nil] at one
          refine ⟨S' ++ T1, rl'.append one, List.nodup_append.mpr ⟨nd', n1, fun a ha b hb e => ?_⟩, fun a ha => List.mem_append.mp ha⟩
          subst e
          exact dj' a ha hb
        have ep : putAt s' i [] (.nd .lst true (ds ++ [d])) = s'.set i (some (.nd .lst true (ds ++ [d]))) := by
          rw [putAt_some e1]; rfl
        rw [ep] at r2
        exact p σ _ R1 S2 r2 (f1.trans f2)
      · rw [if_neg hl] at p; exact p.elim
    · exact p.elim
  · exact q.elim
end
end VL
/-! # VL18: dict of pairs, in of ints -/
namespace VL
open PySem PySem.Spec PyProof.Rows L2
section
variable {X : Cx}
theorem CallV.or {f : Value} {g g' : List D → Option D} (h : CallV X f g) (h' : CallV X f g') : CallV X f (fun ds => match g ds with | some d => some d | none => g' ds) := by
  obtain ⟨r, a, b⟩ := h
  obtain ⟨r', a', b'⟩ := h'
  refine ⟨_, CallR.or a a', fun ds d e R H vs S Q dm rl q => ?_⟩
  cases z : g ds with
  | some y =>
    simp only [z] at e
    cases e
    exact .inl (b ds d z R H vs S Q dm rl q)
  | none =>
    simp only [z] at e
    exact .inr (b' ds d e R H vs S Q dm rl q)
/-- pairs of a key and a value that may be shared -/
def pairsD : List D → Option (List Key × List D)
  | [] => some ([], [])
  | .nd .tup _ [kd, vd] :: ds => match keyD kd, pairsD ds with
    | some k, some (ks, vs) => if shr vd = true then some (k :: ks, vd :: vs) else none
    | _, _ => none
  | _ :: _ => none
theorem pairs_rp {C : Ct} {R : Addr → Prop} {H : Hp} : ∀ {ds : List D} {vs : List V} {S : List Addr} {ks : List Key} {es : List D}, RpL C R H ds vs S → pairsD ds = some (ks, es) →
    ∃ (ps : List Addr) (ws : List V), vs = ps.map V.ref ∧ ks.length = ws.length ∧ Paired (fun p kv => SqT C.K H p [kV kv.1, kv.2]) ps (ks.zip ws) ∧ RpL C R H es ws [] ∧ es.length = ks.length
  | [], vs, S, ks, es, h, e => by
    unfold pairsD at e
    cases e
    unfold RpL at h
    exact ⟨[], [], h.1, rfl, .nil, RpL.nil, rfl⟩
  | d :: ds, vs, S, ks, es, h, e => by
    unfold RpL at h
    obtain ⟨v, vs', S1, S2, e1, e2, h1, h2⟩ := h
    unfold pairsD at e
    split at e
    · rename_i heq
      exact absurd heq (List.cons_ne_nil _ _)
    · rename_i m kd vd ds' heq
      cases heq
      split at e
      · rename_i k ks' vs'' ek ep
        split at e
        · rename_i hs
          cases e
          obtain ⟨a, ws, rfl, sa, ra⟩ := rp_tup h1
          obtain ⟨x, y, T1, T2, rfl, rx, ry⟩ := rpl2 ra
          have hk := rx.key ek
          subst hk
          obtain ⟨ps, ws', f1, f2, f3, f4, f5⟩ := pairs_rp h2 ep
          have z := ry.shr hs
          subst z
          refine ⟨a :: ps, y :: ws', by rw [e1, f1]; rfl, by simp [f2], ?_, ?_, by simp [f5]⟩
          · rw [List.zip_cons_cons]
            exact .cons sa f3
          · have := RpL.cons ry f4
            exact this
        · cases e
      · cases e
    · cases e
def gDictP : List D → Option D
  | [.nd .lst _ ds] => match pairsD ds with
    | some (ks, es) => if ks.Nodup then some (.nd (.dct ks) true es) else none
    | none => none
  | _ => none
theorem zip_fst {α β : Type} : ∀ {as : List α} {bs : List β}, as.length = bs.length → (as.zip bs).map (·.1) = as
  | [], _, _ => by simp
  | a :: as, [], h => by simp at h
  | a :: as, b :: bs, h => by
    rw [List.zip_cons_cons, List.map_cons, zip_fst (by simpa using h)]
theorem cv_dictP (hc : X.calm = true) : CallV X (.type "dict") gDictP := ⟨_, call_dictP hc, fun ds d e R H vs S Q dm r q => by
  unfold gDictP at e
  split at e
  · rename_i m ds'
    split at e
    · rename_i ks es ep
      split at e
      · rename_i hn
        cases e
        obtain ⟨v, S1, rfl, r1⟩ := rpl1 r
        obtain ⟨a, ws, S', rfl, sa, ra⟩ := rp_lst r1
        obtain ⟨ps, us, f1, f2, f3, f4, f5⟩ := pairs_rp ra ep
        subst f1
        refine ⟨a, ps, _, rfl, sa, f3, fun p hp => ?_⟩
        have em : mergeK [] (ks.zip us) = ks.zip us := by
          rw [mergeK_app _ _ (by rw [zip_fst f2]; exact hn) (by simp)]
          rfl
        rw [em]
        have z := rp_newK (H := H) dm (Same.refl H) hp f2 hn f4 List.nodup_nil (by simp)
        exact q _ _ _ z.1 z.2.1 z.2.2.1 z.2.2.2
      · cases e
    · cases e
  · cases e⟩
def gDictU : List D → Option D := fun ds => match gDict ds with | some d => some d | none => gDictP ds
theorem cv_dictU (hc : X.calm = true) : CallV X (.type "dict") gDictU := cv_dict.or (cv_dictP hc)
end
end VL
/-! # VL19: dict displays with reckoned text keys -/
namespace VL
open PySem PySem.Spec PyProof.Rows L2
def flatP : List (V × V) → List V
  | [] => []
  | (a, b) :: r => a :: b :: flatP r
def unflat : List D → Option (List Str × List D)
  | [] => some ([], [])
  | .str x :: d :: ds => (unflat ds).map fun z => (x :: z.1, d :: z.2)
  | _ => none
def PFKG (X : Cx) (W : Wi) (pos : Pos) (keys : List (Option Expr)) (vals : List Expr) (f : Slots → Rb (List D)) : Prop :=
  ∃ trs, PPs X pos keys vals trs ∧ ∀ σ H Q, (tFs (ct X) W f σ H fun vs H1 => ∃ prs, vs = flatP prs ∧ Q prs H1) → tPairs trs σ H Q
def bDctG (f : Slots → Rb (List D)) : Fb := fun s => (f s).bind fun ds => match unflat ds with
  | some (ks, es) => if ks.length ≤ 15 ∧ (ks.map (Sum.inr : Str → Key)).Nodup then .ok (.nd (.dct (ks.map Sum.inr)) true es) else .stuck
  | none => .stuck
theorem unflat_rp {C : Ct} {R : Addr → Prop} {H : Hp} : ∀ {ds : List D} {vs : List V} {S : List Addr} {ks : List Str} {es : List D}, RpL C R H ds vs S → unflat ds = some (ks, es) →
    ∃ ws, vs = flatP ((ks.map V.str).zip ws) ∧ ks.length = ws.length ∧ RpL C R H es ws S
  | [], vs, S, ks, es, h, e => by
    unfold unflat at e
    cases e
    unfold RpL at h
    exact ⟨[], h.1, rfl, by unfold RpL; exact ⟨rfl, h.2⟩⟩
  | [d], vs, S, ks, es, h, e => by
    unfold unflat at e
    split at e <;> simp_all
  | d :: d' :: ds, vs, S, ks, es, h, e => by
    unfold unflat at e
    split at e
    · rename_i heq; cases heq
    · rename_i x d2 ds2 heq
      cases heq
      obtain ⟨z, ez, e2⟩ := Option.map_eq_some_iff.mp e
      obtain ⟨ks', es'⟩ := z
      cases e2
      unfold RpL at h
      obtain ⟨v, vs', S1, S2, e1, e2, h1, h2⟩ := h
      unfold RpL at h2
      obtain ⟨w, ws', S3, S4, e3, e4, h3, h4⟩ := h2
      obtain ⟨us, f1, f2, f3⟩ := unflat_rp h4 ez
      have z1 : v = .str x := h1.1
      have z2 : S1 = [] := h1.2
      refine ⟨w :: us, ?_, by simp [f2], ?_⟩
      · rw [e1, e3, z1, f1]; rfl
      · rw [e2, z2, e4, List.nil_append]; exact RpL.cons h3 f3
    · cases e
theorem flatP_inj : ∀ {a b : List (V × V)}, flatP a = flatP b → a = b
  | [], [], _ => rfl
  | [], (_, _) :: _, h => by simp [flatP] at h
  | (_, _) :: _, [], h => by simp [flatP] at h
  | (a, b) :: r, (c, d) :: s, h => by
    simp only [flatP, List.cons.injEq] at h
    rw [h.1, h.2.1, flatP_inj h.2.2]
section
variable {X : Cx} {W : Wi} {pos : Pos}
theorem pfkg_nil : PFKG X W pos [] [] bNil := ⟨[], pps_nil, fun σ H Q h => by
  obtain ⟨s, R, S, rel, p⟩ := h
  obtain ⟨prs, e, q⟩ := p [] H [] (Same.refl H) RpL.nil List.nodup_nil (by simp)
  cases prs with
  | nil => exact q
  | cons _ _ => cases e⟩
theorem pfkg_cons {k v : Expr} {keys : List (Option Expr)} {vals : List Expr} {fk fv : Fb} {g : Slots → Rb (List D)} (hk : PF X W k fk) (hv : PF X W v fv) (hr : PFKG X W pos keys vals g) :
    PFKG X W pos (some k :: keys) (v :: vals) (bCons fk (bCons fv g)) := by
  obtain ⟨trs, h1, h2⟩ := hr
  refine ⟨(tF (ct X) W fk, tF (ct X) W fv) :: trs, pps_cons hk hv h1, fun σ H Q h => ?_⟩
  obtain ⟨s, R, S, rel, p⟩ := h
  show tF (ct X) W fk σ H fun x H1 => tF (ct X) W fv σ H1 fun y H2 => tPairs trs σ H2 fun ps H3 => Q ((x, y) :: ps) H3
  refine tF_seq rel p (fun c h => h) (fun h => h) fun d v H1 T e p k1 r n1 f1 => ?_
  refine tF_seq (P := PostLF (ct X) W R σ H _) (k := fun ds => (g s).bind fun es => .ok (d :: ds :: es)) (rel.same k1) (by
    have p' : PostLF (ct X) W R σ H _ (((fv s).bind fun ds => (g s).bind fun es => .ok (ds :: es)).bind fun ds => .ok (d :: ds)) := p
    cases z : fv s with
    | ok a =>
      simp only [z, Rb.bind] at p' ⊢
      cases z2 : g s with
      | ok b => simp only [z2] at p' ⊢; exact p'
      | err c => simp only [z2] at p' ⊢; exact p'
      | stuck => simp only [z2] at p' ⊢; exact p'
    | err c => simp only [z, Rb.bind] at p' ⊢; exact p'
    | stuck => simp only [z, Rb.bind] at p' ⊢; exact p') (fun c h H' cl k e => h H' cl (k1.trans k) e) (fun h => h) fun d2 v2 H2 T2 e2 p2 k2 r2 n2 f2 => ?_
  refine h2 σ H2 _ (tFs_seq (P := PostLF (ct X) W R σ H _) (rel.same (k1.trans k2)) p2 (fun c h H' cl k e => h H' cl ((k1.trans k2).trans k) e) (fun h => h) fun ds vs H3 T3 e3 p3 k3 r3 n3 f3 => ?_)
  have dm := (rel.same k1).dom
  have rr := RpL.cons (r.same dm (k2.trans k3)) (RpL.cons (r2.same (rel.same (k1.trans k2)).dom k3) r3)
  have own1 : ∀ a ∈ T, H1 a ≠ none := fun a ha => (r.owns a ha).some
  have own2 : ∀ a ∈ T2, H2 a ≠ none := fun a ha => (r2.owns a ha).some
  have n23 := nodup_app (H := H) n2 n3 own2 f3
  have f23 : ∀ a ∈ T2 ++ T3, H1 a = none := fun a ha => by
    rcases List.mem_append.mp ha with z | z
    · exact f2 a z
    · exact k2.free (f3 a z)
  have nn := nodup_app (H := H) n1 n23 own1 f23
  obtain ⟨prs, e, q⟩ := p3 _ H3 (T ++ (T2 ++ T3)) ((k1.trans k2).trans k3) rr nn fun a ha => by
    rcases List.mem_append.mp ha with z | z
    · exact f1 a z
    · exact k1.free (f23 a z)
  cases prs with
  | nil => cases e
  | cons ab prs =>
    obtain ⟨a, b⟩ := ab
    simp only [flatP, List.cons.injEq] at e
    obtain ⟨rfl, rfl, rfl⟩ := e
    exact ⟨prs, rfl, q⟩
theorem zip_keys' (ks : List Str) (vs : List V) : (ks.map V.str).zip vs = ((ks.map (Sum.inr : Str → Key)).zip vs).map (fun kv => (kV kv.1, kv.2)) := by
  rw [List.zip_map_left, List.zip_map_left, List.map_map]
  rfl
theorem pf_dctG {keys : List (Option Expr)} {vals : List Expr} {f : Slots → Rb (List D)} (h : PFKG X W pos keys vals f) (hall : keys.all (·.isSome) = true := by rfl) (hl : keys.length = vals.length := by rfl) (h0 : keys ≠ [] := by simp) (h15 : keys.length ≤ 15 := by decide) :
    PF X W (.Dict keys vals pos) (bDctG f) := by
  obtain ⟨trs, h1, h2⟩ := h
  refine pe_imp (pe_disp h1 hall hl h0 h15) fun σ H Q q => ?_
  obtain ⟨s, R, S, rel, p⟩ := q
  intro a ha
  have k0 : Same H (upd H a (.dK [])) := same_upd' ha
  refine h2 σ _ _ (tFs_seq (P := PostF (ct X) W R σ H Q) (rel.same k0) p (fun c h H' cl k e => h H' cl (k0.trans k) e) (fun h => h) fun ds vs H2 T e2 p2 k2 r2 n2 f2 => ?_)
  have p2' : PostF (ct X) W R σ H Q (match unflat ds with
    | some (ks, es) => if ks.length ≤ 15 ∧ (ks.map (Sum.inr : Str → Key)).Nodup then .ok (.nd (.dct (ks.map Sum.inr)) true es) else .stuck
    | none => .stuck) := p2
  cases eu : unflat ds with
  | none => rw [eu] at p2'; exact p2'.elim
  | some z =>
    obtain ⟨ks, es⟩ := z
    simp only [eu] at p2'
    by_cases hc : ks.length ≤ 15 ∧ (ks.map (Sum.inr : Str → Key)).Nodup
    · rw [if_pos hc] at p2'
      obtain ⟨c2, c3⟩ := hc
      obtain ⟨ws, g1, hv, r2⟩ := unflat_rp r2 eu
      have hd : H2 a = some (.dK []) := k2 a _ upd_same
      have hkl : (ks.map (Sum.inr : Str → Key)).length = ws.length := by rw [List.length_map, hv]
      refine ⟨_, g1, hd, (ks.map (Sum.inr : Str → Key)).zip ws, zip_keys' ks ws, by rw [List.length_zip, hkl, Nat.min_self]; omega, ?_⟩
      have hmap : ((ks.map (Sum.inr : Str → Key)).zip ws).map (·.1) = ks.map Sum.inr := List.map_fst_zip (by omega)
      rw [mergeK_app _ _ (by rw [hmap]; exact c3) (by simp), List.nil_append]
      have haT : a ∉ T := fun z => by
        have := f2 a z
        rw [upd_same] at this; cases this
      have hS : Same H (upd H2 a (.dK ((ks.map (Sum.inr : Str → Key)).zip ws))) := fun b o hb => by
        have hne : b ≠ a := ne_of_none hb ha
        rw [upd_ne hne]
        exact k2 b o (by rw [upd_ne hne]; exact hb)
      have hR : ∀ b, R b → R b ∧ (upd H2 a (.dK ((ks.map (Sum.inr : Str → Key)).zip ws))) b = H2 b := fun b hb => ⟨hb, upd_ne fun e => by subst e; exact rel.dom b hb ha⟩
      have ht : TupS H2 (upd H2 a (.dK ((ks.map (Sum.inr : Str → Key)).zip ws))) := tupS_upd fun xs hx => by
        rcases hx with hx | ⟨o, hx⟩
        · rw [hd] at hx; cases hx
        · rw [hd] at hx; cases hx
      have r3 := r2.fm hR ht fun b hb => upd_ne fun e => by subst e; exact haT hb
      refine p2' (.ref a) _ (a :: T) hS ?_ (List.nodup_cons.mpr ⟨haT, n2⟩) fun b hb => ?_
      · unfold Rp
        exact ⟨a, ws, T, rfl, ⟨⟨hkl, c3⟩, upd_same, rfl⟩, r3⟩
      · rcases List.mem_cons.mp hb with rfl | hb
        · exact ha
        · exact k0.free (f2 b hb)
    · rw [if_neg hc] at p2'
      exact p2'.elim
end
end VL
/-! # VL20: equal tuples, lists and dicts, dicts within them -/
namespace VL
open PySem PySem.Spec PyProof.Rows L2
section
open PySem.SeqAt MeetsSeq MeetsSeq2 MeetsSeq3 SeqRoads2
open AutoSeq1 (wpAny_loadPart')
variable {prog : Program} {w : World}
/-- tuples of equal items: not unlike -/
theorem tup_neIn (l b : Addr) (xs ys : Array Value) (n1 n2 : Nat) (d1 d2 : Option Addr) (z1 z2 : Array (Option Value)) (hz : xs.size = ys.size) : MeetsIn prog w (Builtin.«tuple.__ne__» ⟨[.ref l, .ref b], []⟩)
    (fun A R s => s.heap.get? l = some ⟨.type "tuple", d1, .seq xs n1, z1⟩ ∧ s.heap.get? b = some ⟨.type "tuple", d2, .seq ys n2, z2⟩ ∧ (∀ j (h1 : j < xs.size) (h2 : j < ys.size), EqP prog w A.in1 s xs[j] ys[j] true) ∧ R (.ok (.ret (.bool false))) s) := by
  intro A R s h
  obtain ⟨hp, g, d, tk, os⟩ := s
  obtain ⟨ha, hb, eqs, hR⟩ := h
  have sub := AutoSeq1.sub_tuple_tuple
  have lz : (xs.toList.zip ys.toList).length = xs.size := by simp [hz]
  wp_walk using wpAny_loadPart' ha, wpAny_loadPart' hb, wpAny_forIn_list _ (fun rest c s' => c.1 = none ∧ s' = ⟨hp, g, d, tk, os⟩ ∧ ∃ i, rest = (xs.toList.zip ys.toList).drop i ∧ i ≤ xs.size) _
  case turn =>
    rintro ⟨y, x⟩ rest c s' ⟨hc, rfl, i, er, hi⟩
    have li : i < (xs.toList.zip ys.toList).length := by
      rcases Nat.lt_or_ge i (xs.toList.zip ys.toList).length with q | q
      · exact q
      · rw [List.drop_of_length_le q] at er; cases er
    have i1 : i < xs.size := lz ▸ li
    have i2 : i < ys.size := hz ▸ i1
    rw [List.drop_eq_getElem_cons li] at er
    injection er with ep eq
    obtain rfl : y = xs[i] := by have := congrArg Prod.fst ep; simpa using this
    obtain rfl : x = ys[i] := by have := congrArg Prod.snd ep; simpa using this
    refine wpAny_bind (eqs i i1 i2 _ _ ?_)
    wp_walk
    exact ⟨rfl, rfl, i + 1, eq, i1⟩
  case fin =>
    rintro ⟨c1, c2⟩ s' ⟨hc, rfl, i, er, hi⟩
    simp only at hc
    subst hc
    wp_walk
    simpa [Builtin.Tuple.tupleCompareSizes, bne, hz] using hR
  case h =>
    exact ⟨rfl, rfl, 0, rfl, Nat.zero_le _⟩
theorem lst_neLoop (l b : Addr) (xs ys : Array Value) (n1 n2 : Nat) (d1 d2 : Option Addr) (z1 z2 : Array (Option Value)) (hz : xs.size = ys.size) (k : Nat) : ∀ i : Nat, xs.size - i = k → MeetsIn prog w (Builtin.«list.__eq__.loop» ⟨[.ref l, .ref b, rawInt i, rawInt 3], []⟩)
    (fun A R s => s.heap.get? l = some ⟨.type "list", d1, .seq xs n1, z1⟩ ∧ s.heap.get? b = some ⟨.type "list", d2, .seq ys n2, z2⟩ ∧ (∀ j (h1 : j < xs.size) (h2 : j < ys.size), EqP prog w A.in1 s xs[j] ys[j] true) ∧ R (.ok (.ret (.bool false))) s) := by
  induction k with
  | zero =>
    intro i hk A R s h
    obtain ⟨hp, g, d, tk, os⟩ := s
    obtain ⟨ha, hb, eqs, hR⟩ := h
    wp_walk using wpAny_loadPart' ha, wpAny_loadPart' hb
    have o1 : xs[((i : Nat) : Int).toNat]? = none := by simp; omega
    have o2 : ys[((i : Nat) : Int).toNat]? = none := by simp; omega
    rw [o1, o2]
    wp_walk using wpAny_loadPart' ha, wpAny_loadPart' hb
    show R (.ok (.ret (.bool (xs.size != ys.size)))) _
    rw [hz]
    simpa using hR
  | succ k ih =>
    intro i hk A R s h
    obtain ⟨hp, g, d, tk, os⟩ := s
    obtain ⟨ha, hb, eqs, hR⟩ := h
    wp_walk using wpAny_loadPart' ha, wpAny_loadPart' hb
    have i1 : i < xs.size := by omega
    have i2 : i < ys.size := by omega
    have o1 : xs[((i : Nat) : Int).toNat]? = some xs[i] := by simp [i1]
    have o2 : ys[((i : Nat) : Int).toNat]? = some ys[i] := by simp [i2]
    have ec : ((i : Int) + 1) = ((i + 1 : Nat) : Int) := by omega
    rw [o1, o2]
    refine wpAny_bind (eqs i i1 i2 _ _ ?_)
    wp_walk
    rw [ec]
    exact ⟨plainId_quiet plain_eq_loop _, codeAny_builtin entry_eq_loop (by
      rw [Around.under_plainId plain_eq_loop _]
      exact ih (i + 1) (by omega) A R _ ⟨ha, hb, eqs, hR⟩)⟩
theorem lst_neIn (l b : Addr) (xs ys : Array Value) (n1 n2 : Nat) (d1 d2 : Option Addr) (z1 z2 : Array (Option Value)) (hz : xs.size = ys.size) : MeetsIn prog w (Builtin.«list.__ne__» ⟨[.ref l, .ref b], []⟩)
    (fun A R s => s.heap.get? l = some ⟨.type "list", d1, .seq xs n1, z1⟩ ∧ s.heap.get? b = some ⟨.type "list", d2, .seq ys n2, z2⟩ ∧ (∀ j (h1 : j < xs.size) (h2 : j < ys.size), EqP prog w A.in1 s xs[j] ys[j] true) ∧ R (.ok (.ret (.bool false))) s) := by
  intro A R s h
  obtain ⟨hp, g, d, tk, os⟩ := s
  obtain ⟨ha, hb, eqs, hR⟩ := h
  have sub := AutoSeq1.sub_list_list
  have nz : ¬ (xs.size != ys.size) = true := by simp [hz]
  wp_walk using wpAny_loadPart' ha, wpAny_loadPart' hb
  exact ⟨plainId_quiet plain_eq_loop _, codeAny_builtin entry_eq_loop (by
    rw [Around.under_plainId plain_eq_loop _]
    exact lst_neLoop l b xs ys n1 n2 d1 d2 z1 z2 hz _ 0 rfl A R _ ⟨ha, hb, eqs, hR⟩)⟩
variable {A : Around} {s : Shared} {E Q : Value → Shared → Prop}
theorem rcn_tups {l b : Addr} {xs ys : Array Value} (hl : s.heap.IsTuple l xs) (hb : s.heap.IsTuple b ys) (hz : xs.size = ys.size) (hu : A.units < cLine) (he : ∀ j (h1 : j < xs.size) (h2 : j < ys.size), EqP prog w A.in1 s xs[j] ys[j] true) (h : Q (.bool false) s) :
    wpAny (model prog w) A (richCompare .NotEq (.ref l) (.ref b)) Q E s := by
  obtain ⟨⟨c1, d1, t1, z1⟩, g1, e1, n1, f1⟩ := id hl
  obtain ⟨⟨c2, d2, t2, z2⟩, g2, e2, n2, f2⟩ := id hb
  simp only at e1 f1 e2 f2
  subst e1 f1 e2 f2
  have ta : s.TypeIs (.ref l) "tuple" := ⟨_, g1, rfl⟩
  refine wpAny_richCompare_same_room (op := .NotEq) ta ⟨_, g2, rfl⟩ F.slot_tuple_ne (call_meetsIn F.slot_tuple_ne ta F.entry_tuple_ne (F.args_tuple_ne_2 _ _) (tup_neIn l b xs ys n1 n2 d1 d2 z1 z2 hz) ⟨g1, g2, he, ?_⟩) hu
  exact ⟨fun z => (nomatch z), h⟩
theorem rce_tups {l b : Addr} {xs ys : Array Value} (hl : s.heap.IsTuple l xs) (hb : s.heap.IsTuple b ys) (hz : xs.size = ys.size) (hu : A.units < cLine) (he : ∀ j (h1 : j < xs.size) (h2 : j < ys.size), EqP prog w A.in1 s xs[j] ys[j] true) (h : Q (.bool true) s) :
    wpAny (model prog w) A (richCompare .Eq (.ref l) (.ref b)) Q E s :=
  GQ.rc_tupG hz hu (fun _ s' => s' = s) hl hb (fun i h1 h2 s' e => by subst e; exact he i h1 h2 _ _ ⟨rfl, rfl⟩) (fun s' e => by subst e; exact h) rfl
theorem rcn_lsts {l b : Addr} {xs ys : Array Value} (hl : s.heap.IsList l xs) (hb : s.heap.IsList b ys) (hz : xs.size = ys.size) (hu : A.units < cLine) (he : ∀ j (h1 : j < xs.size) (h2 : j < ys.size), EqP prog w A.in1 s xs[j] ys[j] true) (h : Q (.bool false) s) :
    wpAny (model prog w) A (richCompare .NotEq (.ref l) (.ref b)) Q E s := by
  obtain ⟨⟨c1, d1, t1, z1⟩, g1, e1, n1, f1⟩ := id hl
  obtain ⟨⟨c2, d2, t2, z2⟩, g2, e2, n2, f2⟩ := id hb
  simp only at e1 f1 e2 f2
  subst e1 f1 e2 f2
  have ta : s.TypeIs (.ref l) "list" := ⟨_, g1, rfl⟩
  refine wpAny_richCompare_same_room (op := .NotEq) ta ⟨_, g2, rfl⟩ F.slot_list_ne (call_meetsIn F.slot_list_ne ta F.entry_list_ne (F.args_list_ne_2 _ _) (lst_neIn l b xs ys n1 n2 d1 d2 z1 z2 hz) ⟨g1, g2, he, ?_⟩) hu
  exact ⟨fun z => (nomatch z), h⟩
theorem rcn_dicts {KT : Type} [DecidableEq KT] {knd : PySem.KeyKind prog w KT} {a b : Addr} {ka kb : List (KT × Value)} (ha : (a == sysModules) = false) (hb : (b == sysModules) = false)
    (da : s.heap.DictOf knd a ka) (db : s.heap.DictOf knd b kb) (hu : A.units < cLine) (hl : ka.length = kb.length) (hits : PySem.W.KeqHitsP prog w A.in1 s kb ka true) (h : Q (.bool false) s) : wpAny (model prog w) A (richCompare .NotEq (.ref a) (.ref b)) Q E s := by
  refine wpAny_richCompare_same_room (op := .NotEq) da.typeIs db.typeIs PySem.F.slot_dict_ne (wpAny_call_entry PySem.F.slot_dict_ne da.typeIs PySem.F.entry_dict_ne ?_ (PySem.F.args_dict_ne_2 _ _)) hu
  show wpAny _ _ (Builtin.Dict.dictSlotArgs "__ne__" ⟨[.ref a, .ref b], []⟩ >>= _) _ _ s
  unfold Builtin.Dict.dictSlotArgs
  refine wpAny_bind (wpAny_bind (PySem.wpAny_notOrdered_dict da.typeIs ?_))
  show wpAny _ _ (pure (Value.ref a, Value.ref b)) _ _ s
  refine wpAny_pure (wpAny_bind (wpAny_isInstance (T := "dict") db.typeIs PySem.F.sub_dict_dict ?_))
  simp only [Bool.not_true, Bool.false_eq_true, if_false]
  refine wpAny_bind (wpAny_pure (wpAny_bind (wpAny_pure (wpAny_bind (PySem.W.samePairsP ha hb da db (fun _ => hits) ?_)))))
  refine wpAny_pure ⟨_, rfl, fun z => (nomatch z), ?_⟩
  simpa [hl] using h
end
/-! ### equal by the abstract heap -/
def EqS (K : PySem.W.Frag) (H : Hp) (E : V → V → Prop) (x y : V) : Prop :=
  (∃ a b xs ys, x = .ref a ∧ y = .ref b ∧ SqL K H a xs ∧ SqL K H b ys ∧ Paired E xs ys) ∨ (∃ a b xs ys, x = .ref a ∧ y = .ref b ∧ SqT K H a xs ∧ SqT K H b ys ∧ Paired E xs ys) ∨
    ∃ a b ks ls, x = .ref a ∧ y = .ref b ∧ Rd H a (.dK ks) ∧ Rd H b (.dK ls) ∧ ks.length = ls.length ∧ ∀ p ∈ ks, ∃ u, valV ls p.1 = some u ∧ E p.2 u
def EqN (K : PySem.W.Frag) (H : Hp) : Nat → V → V → Prop
  | 0 => fun _ _ => False
  | n + 1 => fun x y => (x = y ∧ flatB x = true) ∨ (∃ a, x = .ref a ∧ y = .ref a) ∨ EqS K H (EqN K H n) x y
section
variable {X : Cx} {pins : List (Addr × Obj)} {σ : L2.St} {H : Hp} {s : Shared}
theorem dK_ok (I : Inv X pins σ H s) {a : Addr} {ks : List (Key × V)} (h : Rd H a (.dK ks)) : (a == sysModules) = false ∧ ∃ va, KV ks va ∧ s.heap.DictOf (mixKind X.prog X.w) a va := by
  rcases h with h | ⟨o, h⟩
  · obtain ⟨_, ya, va, ra, da⟩ := (show ObjOk X.prog X.w H s.heap a (.dK ks) from I.hok a _ h)
    exact ⟨ya, va, ra, da⟩
  · obtain ⟨_, _, ya, va, ra, da⟩ := (show ObjOk X.prog X.w H s.heap a (.frz o (.dK ks)) from I.hok a _ h)
    exact ⟨ya, va, ra, da⟩
theorem eqS_run (I : Inv X pins σ H s) {A : Around} {F : V → V → Prop} (ne : Bool) (hu : A.units < cLine) (ih : ∀ x y v u, F x y → RelV x v → RelV y u → SeqAt.EqP X.prog X.w A.in1 s v u true) {x y : V} {v u : Value} (h : EqS X.K H F x y) (rx : RelV x v) (ry : RelV y u)
    (E Q : Value → Shared → Prop) (q : Q (.bool (!ne)) s) : wpAny (model X.prog X.w) A (richCompare (if ne then .NotEq else .Eq) v u) Q E s := by
  rcases h with ⟨a, b, xs, ys, rfl, rfl, ha, hb, hp⟩ | ⟨a, b, xs, ys, rfl, rfl, ha, hb, hp⟩ | ⟨a, b, ks, ls, rfl, rfl, ha, hb, hl, hp⟩
  · obtain rfl : v = Value.ref a := rx
    obtain rfl : u = Value.ref b := ry
    obtain ⟨us, r1, p1, _⟩ := I.list ha
    obtain ⟨ws, r2, p2, _⟩ := I.list hb
    have hz : us.toArray.size = ws.toArray.size := by
      rw [List.size_toArray, List.size_toArray, ← r1.length, ← r2.length]
      exact Paired.length hp
    have hi : ∀ j (h1 : j < us.toArray.size) (h2 : j < ws.toArray.size), SeqAt.EqP X.prog X.w A.in1 s us.toArray[j] ws.toArray[j] true := fun j h1 h2 => by
      have k := items_run ih hp r1 r2 j (by simpa using h1) (by simpa using h2)
      simpa using k
    cases ne with
    | true => exact rcn_lsts p1.isList p2.isList hz hu hi q
    | false =>
      refine SeqAt.rcP_lists (e := fun _ => true) p1.isList p2.isList hz hu hi E Q ?_
      rw [show ((List.range us.toArray.size).all fun _ => true) = true from List.all_eq_true.mpr fun _ _ => rfl]
      exact q
  · obtain rfl : v = Value.ref a := rx
    obtain rfl : u = Value.ref b := ry
    obtain ⟨us, r1, p1, _⟩ := I.tuple ha
    obtain ⟨ws, r2, p2, _⟩ := I.tuple hb
    have hz : us.toArray.size = ws.toArray.size := by
      rw [List.size_toArray, List.size_toArray, ← r1.length, ← r2.length]
      exact Paired.length hp
    have hi : ∀ j (h1 : j < us.toArray.size) (h2 : j < ws.toArray.size), SeqAt.EqP X.prog X.w A.in1 s us.toArray[j] ws.toArray[j] true := fun j h1 h2 => by
      have k := items_run ih hp r1 r2 j (by simpa using h1) (by simpa using h2)
      simpa using k
    cases ne with
    | true => exact rcn_tups (show s.heap.IsTuple a us.toArray from p1) (show s.heap.IsTuple b ws.toArray from p2) hz hu hi q
    | false => exact rce_tups (show s.heap.IsTuple a us.toArray from p1) (show s.heap.IsTuple b ws.toArray from p2) hz hu hi q
  · obtain rfl : v = Value.ref a := rx
    obtain rfl : u = Value.ref b := ry
    obtain ⟨ya, va, ra, da⟩ := dK_ok I ha
    obtain ⟨yb, vb, rb, db⟩ := dK_ok I hb
    have e : va.length = vb.length := by rw [← ra.length, ← rb.length]; exact hl
    cases ne with
    | true => exact rcn_dicts ya yb da db hu e (hits_run ih rb ra hp) q
    | false =>
      refine PySem.W.rcP_dicts (knd := mixKind X.prog X.w) (r := true) ya yb da db hu (fun _ => hits_run ih rb ra hp) E Q ?_
      rw [show (va.length == vb.length && true) = true from by rw [e]; simp]
      exact q
theorem eqN_run (I : Inv X pins σ H s) : ∀ (n : Nat) (A : Around), A.units + n < cLine → ∀ (x y : V) (v u : Value), EqN X.K H n x y → RelV x v → RelV y u → SeqAt.EqP X.prog X.w A s v u true
  | 0, _, _, _, _, _, _, h, _, _ => (show False from h).elim
  | n + 1, A, hu, x, y, v, u, h, rx, ry => by
    rcases h with ⟨rfl, f⟩ | ⟨a, rfl, rfl⟩ | h
    · exact (eqAt_same rx ry f).eqP
    · obtain rfl : v = Value.ref a := rx
      obtain rfl : u = Value.ref a := ry
      exact (SeqAt.EqAt.same _).eqP
    · have step := eqS_run I (A := A) false (by omega) (eqN_run I n A.in1 (by show A.units + 1 + n < cLine; omega)) h rx ry
      obtain ⟨a, b, rfl, rfl⟩ : ∃ a b, x = .ref a ∧ y = .ref b := by
        rcases h with ⟨a, b, _, _, e1, e2, _⟩ | ⟨a, b, _, _, e1, e2, _⟩ | ⟨a, b, _, _, e1, e2, _⟩ <;> exact ⟨a, b, e1, e2⟩
      obtain rfl : v = Value.ref a := rx
      obtain rfl : u = Value.ref b := ry
      by_cases e : a = b
      · subst e
        exact (SeqAt.EqAt.same _).eqP
      · exact SeqAt.eqP_refs e step
end
def rEqN (K : PySem.W.Frag) (ne : Bool) : R2 := fun x y H Q => ∃ n, n ≤ 60 ∧ EqS K H (EqN K H n) x y ∧ Q (.bl (!ne)) H
section
variable {X : Cx}
theorem op_eqN (hu : X.A.units + 64 < cLine) : OpR X (compareOp .Eq) (rEqN X.K false) := by
  intro pins s σ H x y v u Q I rx ry h
  obtain ⟨n, hn, h, q⟩ := h
  exact eqS_run I (A := X.A) false (by omega) (eqN_run I n X.A.in1 (by show X.A.units + 1 + n < cLine; omega)) h rx ry _ _ ⟨.bl true, H, I, rfl, q⟩
theorem op_neN (hu : X.A.units + 64 < cLine) : OpR X (compareOp .NotEq) (rEqN X.K true) := by
  intro pins s σ H x y v u Q I rx ry h
  obtain ⟨n, hn, h, q⟩ := h
  exact eqS_run I (A := X.A) true (by omega) (eqN_run I n X.A.in1 (by show X.A.units + 1 + n < cLine; omega)) h rx ry _ _ ⟨.bl false, H, I, rfl, q⟩
/-! ### .. by trees -/
mutual
/-- equal trees: dicts in whatever order; n: how deep it is looked -/
def eqT : Nat → D → D → Bool
  | 0, _, _ => false
  | _ + 1, .non, .non => true
  | _ + 1, .bl a, .bl b => a == b
  | _ + 1, .int a, .int b => a == b
  | _ + 1, .str a, .str b => a == b
  | n + 1, .nd .tup _ as, .nd .tup _ bs => eqTL n as bs
  | n + 1, .nd .lst _ as, .nd .lst _ bs => eqTL n as bs
  | n + 1, .nd (.dct ks) _ as, .nd (.dct ls) _ bs => ks.length == ls.length && eqTD n ks as ls bs
  | _ + 1, _, _ => false
def eqTL : Nat → List D → List D → Bool
  | _, [], [] => true
  | n, a :: as, b :: bs => eqT n a b && eqTL n as bs
  | _, _, _ => false
def eqTD : Nat → List Key → List D → List Key → List D → Bool
  | _, [], [], _, _ => true
  | n, k :: ks, a :: as, ls, bs => (match lookK k ls bs with
    | some b => eqT n a b
    | none => false) && eqTD n ks as ls bs
  | _, _, _, _, _ => false
end
mutual
theorem eqT_ok {C : Ct} {R : Addr → Prop} {H : Hp} : ∀ (n : Nat) (a b : D) (v w : V) (S T : List Addr), eqT n a b = true → Rp C R H a v S → Rp C R H b w T → EqN C.K H n v w
  | 0, _, _, _, _, _, _, e, _, _ => by unfold eqT at e; cases e
  | n + 1, a, b, v, w, S, T, e, r, q => by
    unfold eqT at e
    split at e
    · cases ‹_ + 1 = 0›
    · rw [r.1, q.1]; exact .inl ⟨rfl, rfl⟩
    · rw [r.1, q.1, eq_of_beq e]; exact .inl ⟨rfl, rfl⟩
    · rw [r.1, q.1, eq_of_beq e]; exact .inl ⟨rfl, rfl⟩
    · rw [r.1, q.1, eq_of_beq e]; exact .inl ⟨rfl, rfl⟩
    · obtain ⟨l, vs, rfl, sa, ra⟩ := rp_tup r
      obtain ⟨m, ws, rfl, sb, rb⟩ := rp_tup q
      cases ‹_ + 1 = _ + 1›
      exact .inr (.inr (.inr (.inl ⟨l, m, vs, ws, rfl, rfl, sa, sb, eqTL_ok _ _ _ _ _ _ _ e ra rb⟩)))
    · obtain ⟨l, vs, S', rfl, sa, ra⟩ := rp_lst r
      obtain ⟨m, ws, T', rfl, sb, rb⟩ := rp_lst q
      cases ‹_ + 1 = _ + 1›
      exact .inr (.inr (.inl ⟨l, m, vs, ws, rfl, rfl, sa, sb, eqTL_ok _ _ _ _ _ _ _ e ra rb⟩))
    · rw [Bool.and_eq_true] at e
      obtain ⟨l, vs, S', rfl, sa, la, ra⟩ := rp_dct r
      obtain ⟨m, ws, T', rfl, sb, lb, rb⟩ := rp_dct q
      cases ‹_ + 1 = _ + 1›
      refine .inr (.inr (.inr (.inr ⟨l, m, _, _, rfl, rfl, sa, sb, ?_, eqTD_ok _ _ _ _ _ _ _ _ _ la lb e.2 ra rb⟩)))
      rw [List.length_zip, List.length_zip, ← la, ← lb, Nat.min_self, Nat.min_self]
      exact eq_of_beq e.1
    · cases e
theorem eqTL_ok {C : Ct} {R : Addr → Prop} {H : Hp} : ∀ (n : Nat) (as bs : List D) (vs ws : List V) (S T : List Addr), eqTL n as bs = true → RpL C R H as vs S → RpL C R H bs ws T → Paired (EqN C.K H n) vs ws
  | n, [], [], vs, ws, S, T, e, r, q => by
    unfold RpL at r q
    rw [r.1, q.1]; exact .nil
  | n, a :: as, b :: bs, vs, ws, S, T, e, r, q => by
    unfold eqTL at e
    rw [Bool.and_eq_true] at e
    unfold RpL at r q
    obtain ⟨v, vs', S1, S2, rfl, _, r1, r2⟩ := r
    obtain ⟨w, ws', T1, T2, rfl, _, q1, q2⟩ := q
    exact .cons (eqT_ok n a b v w S1 T1 e.1 r1 q1) (eqTL_ok n as bs vs' ws' S2 T2 e.2 r2 q2)
  | n, [], _ :: _, _, _, _, _, e, _, _ => by unfold eqTL at e; cases e
  | n, _ :: _, [], _, _, _, _, e, _, _ => by unfold eqTL at e; cases e
theorem eqTD_ok {C : Ct} {R : Addr → Prop} {H : Hp} : ∀ (n : Nat) (ks : List Key) (as : List D) (ls : List Key) (bs : List D) (vs ws : List V) (S T : List Addr), ks.length = vs.length → ls.length = ws.length → eqTD n ks as ls bs = true → RpL C R H as vs S → RpL C R H bs ws T →
    ∀ p ∈ ks.zip vs, ∃ u, valV (ls.zip ws) p.1 = some u ∧ EqN C.K H n p.2 u
  | n, [], as, ls, bs, vs, ws, S, T, hk, hl, e, r, q => by intro p hp; simp at hp
  | n, k :: ks, [], ls, bs, vs, ws, S, T, hk, hl, e, r, q => by unfold eqTD at e; cases e
  | n, k :: ks, a :: as, ls, bs, vs, ws, S, T, hk, hl, e, r, q => by
    unfold eqTD at e
    rw [Bool.and_eq_true] at e
    unfold RpL at r
    obtain ⟨v, vs', S1, S2, rfl, _, r1, r2⟩ := r
    intro p hp
    rw [List.zip_cons_cons] at hp
    rcases List.mem_cons.mp hp with rfl | hp
    · cases z : lookK k ls bs with
      | none => rw [z] at e; cases e.1
      | some b =>
        simp only [z] at e
        obtain ⟨u, U, g1, g2⟩ := (RpL.lookK hl q).1 b z
        exact ⟨u, g1, eqT_ok n a b v u S1 U e.1 r1 g2⟩
    · exact eqTD_ok n ks as ls bs vs' ws S2 T (by simpa using hk) hl e.2 r2 q p hp
end
theorem eqT_ok' {C : Ct} {R : Addr → Prop} {H : Hp} {n : Nat} {a b : D} {k k' : Kd} {m m' : Bool} {as bs : List D} {v w : V} {S T : List Addr} (ea : a = .nd k m as) (eb : b = .nd k' m' bs) (e : eqT (n + 1) a b = true) (r : Rp C R H a v S) (q : Rp C R H b w T) : EqS C.K H (EqN C.K H n) v w := by
  subst ea eb
  unfold eqT at e
  split at e
  · cases ‹_ + 1 = 0›
  · cases ‹D.nd _ _ _ = _›
  · cases ‹D.nd _ _ _ = _›
  · cases ‹D.nd _ _ _ = _›
  · cases ‹D.nd _ _ _ = _›
  · rename_i h1 h2 h3
    cases h1; cases h2; cases h3
    obtain ⟨l, vs, rfl, sa, ra⟩ := rp_tup r
    obtain ⟨m, ws, rfl, sb, rb⟩ := rp_tup q
    exact .inr (.inl ⟨l, m, vs, ws, rfl, rfl, sa, sb, eqTL_ok _ _ _ _ _ _ _ e ra rb⟩)
  · rename_i h1 h2 h3
    cases h1; cases h2; cases h3
    obtain ⟨l, vs, S', rfl, sa, ra⟩ := rp_lst r
    obtain ⟨m, ws, T', rfl, sb, rb⟩ := rp_lst q
    exact .inl ⟨l, m, vs, ws, rfl, rfl, sa, sb, eqTL_ok _ _ _ _ _ _ _ e ra rb⟩
  · rename_i h1 h2 h3
    cases h1; cases h2; cases h3
    rw [Bool.and_eq_true] at e
    obtain ⟨l, vs, S', rfl, sa, la, ra⟩ := rp_dct r
    obtain ⟨m, ws, T', rfl, sb, lb, rb⟩ := rp_dct q
    refine .inr (.inr ⟨l, m, _, _, rfl, rfl, sa, sb, ?_, eqTD_ok _ _ _ _ _ _ _ _ _ la lb e.2 ra rb⟩)
    rw [List.length_zip, List.length_zip, ← la, ← lb, Nat.min_self, Nat.min_self]
    exact eq_of_beq e.1
  · cases e
def isNd : D → Bool
  | .nd _ _ _ => true
  | _ => false
/-- equal for sure -/
def sureEq (a b : D) : Bool := isNd a && isNd b && eqT 40 a b
theorem sure_ok {C : Ct} {R : Addr → Prop} {H : Hp} {a b : D} {v w : V} {S T : List Addr} (e : sureEq a b = true) (r : Rp C R H a v S) (q : Rp C R H b w T) : EqS C.K H (EqN C.K H 39) v w := by
  unfold sureEq at e
  simp only [Bool.and_eq_true] at e
  obtain ⟨⟨h1, h2⟩, h3⟩ := e
  cases a with
  | nd k m as =>
    cases b with
    | nd k' m' bs => exact eqT_ok' rfl rfl h3 r q
    | _ => cases h2
  | _ => cases h1
/-- equality, as far as it is told -/
def eqU : D → D → Option Bool
  | .str x, .str y => some (decide (x = y))
  | a, b => (eqD a b).or (if sureEq a b = true then some true else none)
def gEqU (a b : D) : Option D := (eqU a b).map .bl
def gNeU (a b : D) : Option D := (eqU a b).map fun r => .bl (!r)
def gStrQ (ne : Bool) : D → D → Option D
  | .str x, .str y => some (.bl (if ne then !decide (x = y) else decide (x = y)))
  | _, _ => none
theorem scal_str (x y : Str) : scal (.str x) (.str y) = true := rfl
theorem dec_strV (x y : Str) : decide (V.str x = V.str y) = decide (x = y) := by simp
theorem ov_strEq : OpV X (compareOp .Eq) (gStrQ false) := .mk op_eq fun d1 d2 d e R H v1 v2 S1 S2 Q dm r1 r2 q => by
  unfold gStrQ at e
  split at e
  · cases e
    rw [r1.1, r2.1]
    exact ⟨scal_str _ _, q _ H [] (Same.refl H) ⟨by rw [dec_strV]; rfl, rfl⟩ List.nodup_nil (by simp)⟩
  · cases e
theorem ov_strNe : OpV X (compareOp .NotEq) (gStrQ true) := .mk op_ne fun d1 d2 d e R H v1 v2 S1 S2 Q dm r1 r2 q => by
  unfold gStrQ at e
  split at e
  · cases e
    rw [r1.1, r2.1]
    exact ⟨scal_str _ _, q _ H [] (Same.refl H) ⟨by rw [dec_strV]; rfl, rfl⟩ List.nodup_nil (by simp)⟩
  · cases e
def gSure (r : Bool) (a b : D) : Option D := if sureEq a b = true then some (.bl r) else none
theorem ov_sure (hu : X.A.units + 64 < cLine) : OpV X (compareOp .Eq) (gSure true) := .mk (op_eqN hu) fun d1 d2 d e R H v1 v2 S1 S2 Q dm r1 r2 q => by
  unfold gSure at e
  split at e
  · rename_i hs
    cases e
    exact ⟨39, by omega, sure_ok hs r1 r2, q _ H [] (Same.refl H) ⟨rfl, rfl⟩ List.nodup_nil (by simp)⟩
  · cases e
theorem ov_sureN (hu : X.A.units + 64 < cLine) : OpV X (compareOp .NotEq) (gSure false) := .mk (op_neN hu) fun d1 d2 d e R H v1 v2 S1 S2 Q dm r1 r2 q => by
  unfold gSure at e
  split at e
  · rename_i hs
    cases e
    exact ⟨39, by omega, sure_ok hs r1 r2, q _ H [] (Same.refl H) ⟨rfl, rfl⟩ List.nodup_nil (by simp)⟩
  · cases e
theorem ov_eqU (hu : X.A.units + 64 < cLine) : OpV X (compareOp .Eq) gEqU := (ov_strEq.or ((ov_eqD hu).or (ov_sure hu))).eq fun a b d e => by
  unfold gEqU eqU at e
  split at e
  · cases e; rfl
  · rename_i hns
    have z0 : gStrQ false a b = none := by
      unfold gStrQ
      split
      · exact absurd rfl (hns _ _ rfl)
      · rfl
    unfold g2 gEq gSure
    rw [z0]
    cases z : eqD a b with
    | some r => rw [z] at e; cases e; rfl
    | none =>
      rw [z] at e
      simp only [Option.none_or] at e
      show (if sureEq a b = true then some (D.bl true) else none) = some d
      split
      · rename_i hs; rw [if_pos hs] at e; exact e
      · rename_i hs; rw [if_neg hs] at e; exact e
theorem ov_neU (hu : X.A.units + 64 < cLine) : OpV X (compareOp .NotEq) gNeU := (ov_strNe.or ((ov_neD hu).or (ov_sureN hu))).eq fun a b d e => by
  unfold gNeU eqU at e
  split at e
  · cases e; rfl
  · rename_i hns
    have z0 : gStrQ true a b = none := by
      unfold gStrQ
      split
      · exact absurd rfl (hns _ _ rfl)
      · rfl
    unfold g2 gNe gSure
    rw [z0]
    cases z : eqD a b with
    | some r => rw [z] at e; cases e; rfl
    | none =>
      rw [z] at e
      simp only [Option.none_or] at e
      show (if sureEq a b = true then some (D.bl false) else none) = some d
      split
      · rename_i hs; rw [if_pos hs] at e; exact e
      · rename_i hs; rw [if_neg hs] at e; exact e
end
end VL
/-! # VL21: for over a dict's keys; in of ints in tuples -/
namespace VL
open PySem PySem.Spec PyProof.Rows L2
def keyTo : Key → D
  | .inl i => .int i
  | .inr x => .str x
def keysD : D → Option (List D)
  | .nd (.dct ks) _ _ => some (ks.map keyTo)
  | _ => none
/-- not frozen at the function's begin -/
def NoFz (X : Cx) (d : Addr) : Prop := ∀ o' u', X.H_0 d ≠ some (.frz o' u')
def iKeysL (X : Cx) (td : TE) : TI := fun σ H R => td σ H fun x H1 => ∃ d kvs, x = .ref d ∧ ((∃ o, H1 d = some (.frz o (.dK kvs)) ∧ R (Itk d o kvs) H1) ∨
  (H1 d = some (.dK kvs) ∧ ∀ od, NoFz X d → R (Itk d od kvs) (upd H1 d (.frz od (.dK kvs)))))
section
variable {X : Cx}
theorem keys_go {tg : Expr} {pins : List (Addr × Obj)} {σ : L2.St} {H : Hp} {s : Shared} {d : Addr} {o : Obj} {kvs : List (Key × V)} {R : It → Hp → Prop} (I : Inv X pins σ H s) (hd : H d = some (.frz o (.dK kvs))) (q : R (Itk d o kvs) H) :
    wpAny (model X.prog X.w) X.A (pyIter (.ref d)) (PIE X pins σ tg R) X.xe s := by
  obtain ⟨a1, a2, a3, es, ep, vs, a4, a5, a6, a7⟩ := I.frzK hd
  refine iter_keys a1 a2 a3 a4 (pi_one (tk := s.toks) I _ (turn_keys _ a4) ⟨_, Heap.get?_push_size _ rfl, rfl, ?_⟩ q)
  rw [a5] <;> rfl
theorem pi_keysL {tg e : Expr} {td : TE} (he : PE X e td) : PI X tg e (iKeysL X td) := by
  refine ⟨fun pins s σ H R I h => ?_⟩
  refine thn (he.run pins s σ H _ I h) fun u s1 ⟨x, H1, I1, rx, d, kvs, ex, q⟩ => ?_
  subst ex
  obtain rfl : u = Value.ref d := rx
  rcases q with ⟨o, hd, q⟩ | ⟨hd, q⟩
  · exact keys_go I1 hd q
  · obtain ⟨od, I2⟩ := I1.lock hd True.intro
    exact keys_go I2 upd_same (q od (I1.nofrz hd True.intro))
/-- the end, something locked perhaps -/
def Unl (X : Cx) (K : Hp → Prop) (H' : Hp) : Prop := K H' ∨ ∃ d od u, H' d = some (.frz od u) ∧ NoFz X d ∧ K (upd H' d u)
def EndsU (X : Cx) (D : Ends) : Ends := ⟨fun σ' H' => Unl X (D.nx σ') H', fun v H' => Unl X (D.rt v) H', fun σ' H' => Unl X (D.bk σ') H', fun σ' H' => Unl X (D.ct σ') H'⟩
theorem ps_unl {st : Stmt} {t : TS} (h : PS X st t) : PS X st (fun D σ H => t (EndsU X D) σ H) := by
  refine ⟨fun pins s σ H D I q => ?_⟩
  have un : ∀ {σ' : L2.St} {H' : Hp} {s' : Shared} {K : Hp → Prop}, Inv X pins σ' H' s' → Unl X K H' → ∃ H2, Inv X pins σ' H2 s' ∧ K H2 := fun I' z => by
    rcases z with z | ⟨d, od, u, e, nf, z⟩
    · exact ⟨_, I', z⟩
    · exact ⟨_, I'.unlock e nf, z⟩
  refine thn (h.run pins s σ H _ I q) fun f s1 q => ?_
  cases f with
  | next => obtain ⟨σ', H', I2, q⟩ := q; obtain ⟨H2, I3, q⟩ := un I2 q; exact ⟨σ', _, I3, q⟩
  | brk => obtain ⟨σ', H', I2, q⟩ := q; obtain ⟨H2, I3, q⟩ := un I2 q; exact ⟨σ', _, I3, q⟩
  | cont => obtain ⟨σ', H', I2, q⟩ := q; obtain ⟨H2, I3, q⟩ := un I2 q; exact ⟨σ', _, I3, q⟩
  | ret v =>
    obtain ⟨x, σ', H', I2, r, q⟩ := q
    rcases q with z | ⟨d, od, u, e, nf, z⟩
    · exact ⟨x, σ', _, I2, r, z⟩
    · exact ⟨x, σ', _, I2.unlock e nf, r, z⟩
end
/-! ### a dict locked or let go: what is read stays -/
structure Lk (d : Addr) (kvs : List (Key × V)) (H H' : Hp) : Prop where
  out : ∀ a, a ≠ d → H' a = H a
  h : Rd H d (.dK kvs)
  h' : Rd H' d (.dK kvs)
section
variable {d : Addr} {kvs : List (Key × V)} {H H' : Hp}
theorem rd_dK {o : HO} (h : Rd H d (.dK kvs)) (q : Rd H d o) (nf : ∀ a b, o ≠ .frz a b) : o = .dK kvs := by
  rcases h with h | ⟨x, h⟩ <;> rcases q with q | ⟨y, q⟩
  · rw [h] at q; cases q; rfl
  · rw [h] at q; cases q
  · rw [h] at q; cases q; exact absurd rfl (nf _ _)
  · rw [h] at q; cases q; rfl
theorem Lk.rd (L : Lk d kvs H H') {a : Addr} {o : HO} (q : Rd H a o) (nf : ∀ a b, o ≠ .frz a b) : Rd H' a o := by
  by_cases e : a = d
  · subst e
    rw [rd_dK L.h q nf]; exact L.h'
  · exact rd_same (L.out a e) q
theorem Lk.tups (L : Lk d kvs H H') : TupS H H' := fun a xs q => L.rd q fun _ _ z => by cases z
theorem Lk.ne (L : Lk d kvs H H') : H d ≠ none := fun e => by
  rcases L.h with h | ⟨_, h⟩ <;> rw [e] at h <;> cases h
theorem Lk.sym (L : Lk d kvs H H') : Lk d kvs H' H := ⟨fun a h => (L.out a h).symm, L.h', L.h⟩
theorem Lk.eqIns (L : Lk d kvs H H') {a : Addr} {c dx : Addr} {fs : List (Str × V)} (q : H a = some (.ins c dx fs)) : H' a = some (.ins c dx fs) := by
  have ne : a ≠ d := fun e => by
    subst e
    rcases L.h with h | ⟨_, h⟩ <;> rw [h] at q <;> cases q
  rw [L.out a ne]; exact q
variable {C : Ct} {R : Addr → Prop}
theorem Cell.lk (L : Lk d kvs H H') {k : Kd} {m : Bool} {a : Addr} {vs : List V} {S' S : List Addr} (off : d ∉ S) (h : Cell C R H k m a vs S' S) : Cell C R H' k m a vs S' S := by
  cases k with
  | tup => exact ⟨L.tups.sqt h.1, h.2⟩
  | lst =>
    cases m with
    | true =>
      obtain ⟨h1, rfl⟩ := h
      exact ⟨(L.out a fun e => off (by rw [← e]; simp)).trans h1, rfl⟩
    | false =>
      refine ⟨?_, h.2⟩
      rcases h.1 with ⟨r, q⟩ | q
      · exact .inl ⟨r, L.rd q fun _ _ z => by cases z⟩
      · exact .inr q
  | dct ks =>
    cases m with
    | true =>
      obtain ⟨h0, h1, rfl⟩ := h
      exact ⟨h0, (L.out a fun e => off (by rw [← e]; simp)).trans h1, rfl⟩
    | false => exact ⟨h.1, L.rd h.2.1 (fun _ _ z => by cases z), h.2.2⟩
  | ins c fs =>
    cases m with
    | true =>
      obtain ⟨⟨cl, dx, h0, h1, h2⟩, rfl⟩ := h
      exact ⟨⟨cl, dx, h0, h1, L.eqIns h2⟩, rfl⟩
    | false =>
      obtain ⟨⟨cl, dx, h0, h1, h2⟩, h3⟩ := h
      exact ⟨⟨cl, dx, h0, h1, L.eqIns h2⟩, h3⟩
mutual
theorem Rp.lk (L : Lk d kvs H H') : ∀ {x : D} {v : V} {S : List Addr}, d ∉ S → Rp C R H x v S → Rp C R H' x v S
  | .non, _, _, _, h => h
  | .bl _, _, _, _, h => h
  | .int _, _, _, _, h => h
  | .str _, _, _, _, h => h
  | .nd k m ds, _, _, off, h => by
    unfold Rp at h ⊢
    obtain ⟨a, vs, S', e, c, r⟩ := h
    exact ⟨a, vs, S', e, c.lk L off, RpL.lk L (fun z => off (c.sub d z)) r⟩
theorem RpL.lk (L : Lk d kvs H H') : ∀ {ds : List D} {vs : List V} {S : List Addr}, d ∉ S → RpL C R H ds vs S → RpL C R H' ds vs S
  | [], _, _, _, h => by unfold RpL at h ⊢; exact h
  | x :: ds, _, _, off, h => by
    unfold RpL at h ⊢
    obtain ⟨v, vs', S1, S2, e1, e2, h1, h2⟩ := h
    subst e2
    exact ⟨v, vs', S1, S2, e1, rfl, Rp.lk L (fun z => off (List.mem_append_left _ z)) h1, RpL.lk L (fun z => off (List.mem_append_right _ z)) h2⟩
end
theorem RpS.lk (L : Lk d kvs H H') : ∀ {s : Slots} {σ : L2.St} {S : List Addr}, d ∉ S → RpS C R H s σ S → RpS C R H' s σ S
  | [], _, _, _, h => h
  | o :: s, _, _, off, h => by
    obtain ⟨x, σ', S1, S2, e1, e2, h1, h2⟩ := h
    subst e2
    refine ⟨x, σ', S1, S2, e1, rfl, ?_, RpS.lk L (fun z => off (List.mem_append_right _ z)) h2⟩
    cases o with
    | none => exact h1
    | some y =>
      obtain ⟨v, e, r⟩ := h1
      exact ⟨v, e, r.lk L fun z => off (List.mem_append_left _ z)⟩
theorem Rel.lk {W : Wi} (L : Lk d kvs H H') {s : Slots} {σ : L2.St} {S : List Addr} (hR : R d) (r : Rel C W R H s σ S) : Rel C W R H' s σ S := by
  refine ⟨r.sl.lk L fun z => r.off d z hR, r.nd, r.off, fun a ra => ?_, r.me⟩
  by_cases e : a = d
  · subst e; exact L.sym.ne
  · rw [L.out a e]; exact r.dom a ra
end
def noErrO : Out → Out
  | .err _ _ => .stuck
  | o => o
def sForD (f : Fo) (g : Fg) (body : Fs) : Fs := sO f fun d s => match keysD (frz d) with
  | some ds => noErrO (forL g body ds s)
  | none => .stuck
section
variable {X : Cx} {W : Wi} {pos : Pos}
theorem walks_keys {C : Ct} {R : Addr → Prop} {H : Hp} {d : Addr} {o : Obj} {ks : List Key} {vs : List V} (hl : ks.length = vs.length) (e : H d = some (.frz o (.dK (ks.zip vs)))) : Walks C R (Itk d o (ks.zip vs)) (ks.map keyTo) H := by
  have lz : (ks.zip vs).length = ks.length := by rw [List.length_zip, hl, Nat.min_self]
  refine ⟨fun i x hi => ?_, e, by rw [lz, List.length_map]; exact Nat.le_refl _⟩
  have lt : i < ks.length := by
    have := (List.getElem?_eq_some_iff.mp hi).1
    simpa using this
  refine ⟨⟨e, by rw [lz]; exact lt⟩, fun y H' hy => ⟨hy.1, ?_⟩⟩
  obtain ⟨k, v, h1, h2⟩ := hy.2
  rw [List.getElem?_zip_eq_some] at h1
  rw [List.getElem?_map, h1.1] at hi
  cases hi
  rw [h2]
  cases k with
  | inl i => exact ⟨rfl, rfl⟩
  | inr i => exact ⟨rfl, rfl⟩
theorem psd_forD {tg iter : Expr} {body : List Stmt} {f : Fo} {is : List Nat} {g : Fg} {t : TG} {b : Fs} (hk : Keeps W is) (hp : PassesOwn (model X.prog X.w) X.A X.env X.xe) (hc : X.calm = true) (hi : PO X W iter f) (hg : PGd X tg is g t) (hb : PSsd X W body b)
    (hs : ∀ x, foldedSetIterable iter X.env x = pure x := by intro _; rfl) : PSd X W (.For tg iter body [] pos) (sForD f g b) := by
  refine ps_imp (ps_unl (ps_for hp hc (pi_keysL hi) hg.pg hb hs)) fun D σ H h => ?_
  refine tO_seq (X := X) (W := W) (Dn := D) h fun d s' v R S H0 H1 R1 S1 T p rel r n dj fr => ?_
  cases e : keysD (frz d) with
  | none => rw [e] at p; exact p.elim
  | some ds =>
    rw [e] at p
    have rf : Rp (ct X) (fun a => R1 a ∨ a ∈ T) H1 (frz d) v [] := r.frz (fun a h => .inl h) (fun a h => .inr h)
    have relf : Rel (ct X) W (fun a => R1 a ∨ a ∈ T) H1 s' σ S1 := ⟨rel.sl.fm (fun a h => ⟨.inl h, rfl⟩) (fun _ _ h => h) (fun _ _ => rfl), rel.nd, fun a ha h => h.elim (rel.off a ha) (fun z => (dj a z).1 ha), fun a h => h.elim (rel.dom a) (fun z => (r.owns a z).some), rel.me⟩
    have frf : Fr R S H0 (fun a => R1 a ∨ a ∈ T) S1 H1 := ⟨fr.out, fr.tup, fun a h => .inl (fr.rr a h), fun a h => h.elim (fr.rn a) (fun z => .inr (fr.sn a (List.mem_append_right _ z))), fun a ha => fr.sn a (List.mem_append_left _ ha), fr.dm⟩
    generalize hRf : (fun a => R1 a ∨ a ∈ T) = Rf at rf relf frf
    have p1 := PostS.later frf p
    clear p r dj
    unfold keysD at e
    split at e
    · rename_i ks m' vds hfz
      cases e
      replace p1 : PostS (ct X) W Rf S1 H1 D (noErrO (forL g b (ks.map keyTo) s')) := p1
      rw [hfz] at rf
      unfold Rp at rf
      obtain ⟨a, vs, S', rfl, cell, rl⟩ := rf
      have hm' : m' = false := by
        cases d with
        | nd k m ds => rw [frz] at hfz; cases hfz; rfl
        | _ => cases hfz
      subst hm'
      obtain ⟨⟨hl, hn⟩, hrd, hR, _, _⟩ := cell
      -- the ends of the loop, read where the dict is as it was
      have ends : ∀ H2, Lk a (ks.zip vs) H1 H2 → (H2 = H1 ∨ ∃ od, H2 a = some (.frz od (.dK (ks.zip vs))) ∧ H1 a = some (.dK (ks.zip vs)) ∧ NoFz X a) → PostS (ct X) W Rf S1 H2 (EndsU X D) (forL g b (ks.map keyTo) s') := by
        intro H2 L hcase
        have fin : ∀ {σ' : L2.St} {H' : Hp} {R' : Addr → Prop} {S' T' : List Addr} {K : Hp → Prop}, (∀ x ∈ S', x ∉ T') → (∀ x ∈ S', ¬ R' x) → Fr Rf S1 H2 R' (S' ++ T') H' → (∀ x ∈ T', ¬ R' x) →
            (∀ H'', (H'' = H' ∨ (Lk a (ks.zip vs) H' H'' ∧ R' a ∧ a ∉ S' ++ T')) → Fr Rf S1 H1 R' (S' ++ T') H'' → K H'') → Unl X K H' := by
          intro σ' H' R' S' T' K _ hoff fr' hoffT k
          have aS1 : a ∉ S1 := fun z => relf.off a z hR
          have aH2 : H2 a ≠ none := L.sym.ne
          have ea : H' a = H2 a := fr'.out a aH2 aS1
          have aR' : R' a := fr'.rr a hR
          have aN : a ∉ S' ++ T' := fun z => (List.mem_append.mp z).elim (fun w => hoff a w aR') (fun w => hoffT a w aR')
          have tt : TupS H1 H2 := L.tups
          have nn : ∀ x, H2 x = none → H1 x = none := fun x hx => by
            by_cases q : x = a
            · subst q; exact absurd hx aH2
            · rw [← L.out x q]; exact hx
          rcases hcase with h | ⟨od, h2, h1, nf⟩
          · subst h
            exact .inl (k H' (.inl rfl) fr')
          · have e' : H' a = some (.frz od (.dK (ks.zip vs))) := ea.trans h2
            have L' : Lk a (ks.zip vs) H' (upd H' a (.dK (ks.zip vs))) := ⟨fun x hx => upd_ne hx, .inr ⟨od, e'⟩, .inl upd_same⟩
            refine .inr ⟨a, od, _, e', nf, k _ (.inr ⟨L', aR', aN⟩) ⟨fun x hx hs => ?_, fun x xs q => L'.tups _ _ (fr'.tup _ _ (tt _ _ q)), fr'.rr, fun x hx => ?_, fun x hx => (fr'.sn x hx).imp id (nn x), fun x hx => ?_⟩⟩
            · by_cases q : x = a
              · subst q; rw [upd_same]; exact h1.symm
              · rw [upd_ne q, fr'.out x (by rw [L.out x q]; exact hx) hs, L.out x q]
            · exact (fr'.rn x hx).imp id fun z => z.imp id (nn x)
            · by_cases q : x = a
              · subst q; rw [upd_same]; exact fun z => by cases z
              · rw [upd_ne q]; exact fr'.dm x (by rw [L.out x q]; exact hx)
        have relOf : ∀ {σ' : L2.St} {H' H'' : Hp} {R' : Addr → Prop} {S' T' : List Addr} {s2 : Slots}, Rel (ct X) W R' H' s2 σ' S' → (H'' = H' ∨ (Lk a (ks.zip vs) H' H'' ∧ R' a ∧ a ∉ S' ++ T')) → Rel (ct X) W R' H'' s2 σ' S' := fun rel' c => by
          rcases c with rfl | ⟨L', ra, _⟩
          · exact rel'
          · exact rel'.lk L' ra
        cases z : forL g b (ks.map keyTo) s' with
        | nx s2 =>
          rw [z] at p1
          intro σ' H' R' S' rel' fr'
          refine fin (σ' := σ') (T' := []) (S' := S') (by simp) rel'.off (by rw [List.append_nil]; exact fr') (by simp) fun H'' c fr2 => ?_
          rw [List.append_nil] at fr2
          exact p1 σ' H'' R' S' (relOf rel' c) fr2
        | ct s2 =>
          rw [z] at p1
          intro σ' H' R' S' rel' fr'
          refine fin (σ' := σ') (T' := []) (S' := S') (by simp) rel'.off (by rw [List.append_nil]; exact fr') (by simp) fun H'' c fr2 => ?_
          rw [List.append_nil] at fr2
          exact p1 σ' H'' R' S' (relOf rel' c) fr2
        | brk s2 =>
          rw [z] at p1
          intro σ' H' R' S' rel' fr'
          refine fin (σ' := σ') (T' := []) (S' := S') (by simp) rel'.off (by rw [List.append_nil]; exact fr') (by simp) fun H'' c fr2 => ?_
          rw [List.append_nil] at fr2
          exact p1 σ' H'' R' S' (relOf rel' c) fr2
        | ret x s2 =>
          rw [z] at p1
          intro v σ' H' R' S' T' rel' rv nT dj' fr'
          refine fin (σ' := σ') (fun y hy hy' => (dj' y hy').1 hy) rel'.off fr' (fun y hy => (dj' y hy).2) fun H'' c fr2 => ?_
          refine p1 v σ' H'' R' S' T' (relOf rel' c) ?_ nT dj' fr2
          rcases c with rfl | ⟨L', ra, aN⟩
          · exact rv
          · exact rv.lk L' fun z => aN (List.mem_append_right _ z)
        | err c s2 => rw [z] at p1; exact p1.elim
        | stuck => rw [z] at p1; exact p1.elim
      refine ⟨a, ks.zip vs, rfl, ?_⟩
      rcases hrd with hrd | ⟨o, hrd⟩
      · refine .inr ⟨hrd, fun od nf => ?_⟩
        have L : Lk a (ks.zip vs) H1 (upd H1 a (.frz od (.dK (ks.zip vs)))) := ⟨fun x hx => upd_ne hx, .inl hrd, .inr ⟨od, upd_same⟩⟩
        refine for_core hk hg.sem (relf.lk L hR) (fun R2 S2 H2 fr2 k2 => walks_keys hl (by rw [k2 a hR, upd_same])) (ends _ L (.inr ⟨od, upd_same, hrd, nf⟩))
      · refine .inl ⟨o, hrd, ?_⟩
        have L : Lk a (ks.zip vs) H1 H1 := ⟨fun x hx => rfl, .inr ⟨o, hrd⟩, .inr ⟨o, hrd⟩⟩
        exact for_core hk hg.sem relf (fun R2 S2 H2 fr2 k2 => walks_keys hl (by rw [k2 a hR, hrd])) (ends _ L (.inl rfl))
    · cases e
/-- over a list, a tuple, a text or a dict -/
def sForU (f : Fo) (g : Fg) (body : Fs) : Fs := fun s => match f s with
  | .ok (.nd (.dct _) _ _) _ => sForD f g body s
  | _ => sFor f g body s
theorem psd_forU {tg iter : Expr} {body : List Stmt} {f : Fo} {is : List Nat} {g : Fg} {t : TG} {b : Fs} (hk : Keeps W is) (hp : PassesOwn (model X.prog X.w) X.A X.env X.xe) (hc : X.calm = true) (hi : PO X W iter f) (hg : PGd X tg is g t) (hb : PSsd X W body b)
    (hs : ∀ x, foldedSetIterable iter X.env x = pure x := by intro _; rfl) : PSd X W (.For tg iter body [] pos) (sForU f g b) :=
  psd_or (psd_for hk hp hc hi hg hb hs) (psd_forD hk hp hc hi hg hb hs) fun s => by
    unfold sForU
    split
    · exact .inr rfl
    · exact .inl rfl
/-! ### in of ints in a tuple -/
def gInI (neg : Bool) : D → D → Option D
  | .int z, .nd .tup _ ds => (intsD ds).map fun ns => .bl (if neg then !(ns.any fun n => decide (n = z)) else ns.any fun n => decide (n = z))
  | _, _ => none
theorem inV_ints (z : Int) (ns : List Int) : inV (.int z) (ns.map V.int) = ns.any fun n => decide (n = z) := by
  unfold inV
  rw [List.any_map]
  congr 1
theorem flat_ints (ns : List Int) : (ns.map V.int).all flatV = true := by
  rw [List.all_eq_true]
  intro v hv
  obtain ⟨x, _, rfl⟩ := List.mem_map.mp hv
  rfl
theorem ov_inI : OpV X (compareOp .In) (gInI false) := .mk op_in_seq fun d1 d2 d e R H v1 v2 S1 S2 Q dm r1 r2 q => by
  unfold gInI at e
  split at e
  · obtain ⟨ns, z1, z2⟩ := Option.map_eq_some_iff.mp e
    obtain ⟨a, vs, rfl, sa, ra⟩ := rp_tup r2
    have hv := ra.ints z1
    subst hv
    rw [r1.1]
    refine ⟨a, _, rfl, .inr sa, rfl, flat_ints ns, ?_⟩
    subst z2
    rw [inV_ints]
    exact q _ H [] (Same.refl H) ⟨rfl, rfl⟩ List.nodup_nil (by simp)
  · cases e
theorem ov_notInI : OpV X (compareOp .NotIn) (gInI true) := .mk op_notIn_seq fun d1 d2 d e R H v1 v2 S1 S2 Q dm r1 r2 q => by
  unfold gInI at e
  split at e
  · obtain ⟨ns, z1, z2⟩ := Option.map_eq_some_iff.mp e
    obtain ⟨a, vs, rfl, sa, ra⟩ := rp_tup r2
    have hv := ra.ints z1
    subst hv
    rw [r1.1]
    refine ⟨a, _, rfl, .inr sa, rfl, flat_ints ns, ?_⟩
    subst z2
    rw [inV_ints]
    exact q _ H [] (Same.refl H) ⟨rfl, rfl⟩ List.nodup_nil (by simp)
  · cases e
end
end VL
/-! # VT1: sorted(set(texts)) -/
namespace VL
open PySem PySem.Spec PyProof.Rows L2
abbrev sk (P : Program) (w : World) := PySem.strKind P w
def txtOf (e : Int × Value) : Str := match e.2 with | .str x _ => x | _ => Str.empty
def IsTxt (P : Program) (w : World) (e : Int × Value) : Prop := ∃ x tk, e.2 = Value.str x tk ∧ e.1 = (sk P w).hash x
/-- the texts at a, each once: S says which, n how many; the table can be walked -/
def SetX (P : Program) (w : World) (h : Heap) (a : Addr) (S : Str → Bool) (n : Nat) : Prop :=
  ∃ o es ep t, h.get? a = some o ∧ o.ExactSet ∧ o.data = .set es ep t ∧ (∀ e ∈ es.toList, IsTxt P w e) ∧ (es.toList.map txtOf).Nodup ∧ (∀ k, S k = true ↔ k ∈ es.toList.map txtOf) ∧
    es.size < scanBound ∧ t.fits es.size = true ∧ es.size = n ∧ Ris t.place.toList ∧ (w.params.followText "set-order" = true ∨ t.led = true)
section
variable {P : Program} {w : World} {A : Around} {E : Value → Shared → Prop} {s : Shared} {a : Addr} {S : Str → Bool} {n : Nat}
theorem isTxt_key {e : Int × Value} (g : IsTxt P w e) (k : Str) : (sk P w).is k e.2 = true ↔ txtOf e = k := by
  obtain ⟨x, tk, e1, _⟩ := g
  unfold txtOf
  rw [e1]
  simp only
  constructor
  · intro q
    have q2 := strKind_is P w x tk
    exact ((sk P w).inj _ _ _ q q2).symm
  · intro q
    rw [← q]; exact strKind_is P w x tk
theorem isTxt_elems {l : List (Int × Value)} (g : ∀ e ∈ l, IsTxt P w e) : ElemsOf (sk P w) l := fun e he => by
  obtain ⟨x, tk, e1, e2⟩ := g e he
  exact ⟨⟨x, by rw [e1]; exact strKind_is P w x tk, e2⟩, by rw [e1] <;> rfl⟩
theorem isTxt_mem {l : List (Int × Value)} (g : ∀ e ∈ l, IsTxt P w e) (k : Str) : k ∈ l.map txtOf ↔ ∃ e ∈ l, (sk P w).is k e.2 = true := by
  rw [List.mem_map]
  exact ⟨fun ⟨e, he, q⟩ => ⟨e, he, (isTxt_key (g e he) k).2 q⟩, fun ⟨e, he, q⟩ => ⟨e, he, (isTxt_key (g e he) k).1 q⟩⟩
theorem setX_tail {g : Bool → Sem Unit} (hg : ∀ (b : Bool) (s₁ : Shared) (Q' : Unit → Shared → Prop), Q' () s₁ → wpAny (model P w) A (g b) Q' E s₁) {o : Obj} {es : Array (Int × Value)} {ep : Nat} {t : SetTable} (o1 : s.heap.get? a = some o) (o2 : o.ExactSet) (o3 : o.data = .set es ep t)
    {fs : Array (Int × Value)} {u : SetTable} {S' : Str → Bool} (c1 : ∀ e ∈ fs.toList, IsTxt P w e) (c2 : (fs.toList.map txtOf).Nodup) (c3 : ∀ k, S' k = true ↔ k ∈ fs.toList.map txtOf) (c4 : fs.size < scanBound) (c5 : u.fits fs.size = true) (c6 : Ris u.place.toList)
    (c7 : w.params.followText "set-order" = true ∨ u.led = true) {dm : Bool} {R : Option Bool → Shared → Prop} (hR : ∀ h', Heap.SameBut a s.heap h' → SetX P w h' a S' fs.size → R (some true) { s with heap := h' }) :
    wpAny (model P w) A (do
        storeSet a fs u
        if (!dm && u.tooFull) = true then do
            g (relayAll u fs (SetTable.grown fs.size)).2.2
            storeSet a (relayAll u fs (SetTable.grown fs.size)).1 (relayAll u fs (SetTable.grown fs.size)).2.1
            pure (some true)
          else pure (some true)) R E s := by
  refine wpAny_bind (wpAny_storeSet_of o1 o3 ?_ (fits_of_scanBound c4))
  have p1 := store_at (es' := fs) (t' := u) o1 o3
  have b1 := Heap.SameBut.update s.heap a (Obj.putSet fs u)
  split
  · have q1 := relayAll_perm u fs (SetTable.grown fs.size)
    have q2 := relayAll_fits u fs (SetTable.grown fs.size)
    have q3 := relayAll_ris u fs (SetTable.grown fs.size)
    have q4 := relayAll_led u fs (SetTable.grown fs.size)
    generalize relayAll u fs (SetTable.grown fs.size) = Z at q1 q2 q3 q4 ⊢
    obtain ⟨gs, v, gave⟩ := Z
    dsimp only at q1 q2 q3 q4 ⊢
    have z1 : gs.size = fs.size := by rw [← Array.length_toList, q1.length_eq, Array.length_toList]
    have z2 : gs.size < scanBound := by rw [z1]; exact c4
    refine wpAny_bind (hg _ _ _ (wpAny_bind (wpAny_storeSet_of p1 rfl ?_ (fits_of_scanBound z2))))
    have p2 := store_at (es' := gs) (t' := v) p1 rfl
    refine wpAny_pure (hR _ (b1.trans (Heap.SameBut.update _ a _)) ⟨_, gs, _, v, p2, o2, rfl, fun e he => c1 e (q1.mem_iff.mp he), (q1.map txtOf).nodup_iff.mpr c2, fun k => (c3 k).trans (q1.map txtOf).mem_iff.symm, z2, q2, z1, q3, ?_⟩)
    exact c7.imp id fun z => by rw [q4]; exact z
  · exact wpAny_pure (hR _ b1 ⟨_, fs, _, u, p1, o2, rfl, c1, c2, c3, c4, c5, rfl, c6, c7⟩)
theorem gave_way (b : Bool) {s₁ : Shared} {Q' : Unit → Shared → Prop} (q : Q' () s₁) : wpAny (model P w) A (match b with | true => rule "set.scan.the-table-gave-way" | false => pure ()) Q' E s₁ := by
  cases b <;> first | exact wpAny_pure q | exact wpAny_rule q
theorem setX_add {k : Str} {tk : Tok} {Q : Bool → Shared → Prop} (R : SetX P w s.heap a S n) (room : n + 1 < scanBound)
    (hQ : ∀ h', Heap.SameBut a s.heap h' → SetX P w h' a (fun j => S j || decide (j = k)) (if S k = true then n else n + 1) → Q (!S k) { s with heap := h' }) :
    wpAny (model P w) A (setAddHashed a (.str k tk) ((sk P w).hash k)) Q E s := by
  obtain ⟨o, es, ep, t, o1, o2, o3, c1, c2, c3, c4, c5, c6, c7, c8⟩ := R
  have isk : (sk P w).is k (.str k tk) = true := strKind_is P w k tk
  have scn : (Value.str k tk).scannable = true := rfl
  have els := isTxt_elems c1
  unfold setAddHashed setAddHashedIn
  refine wpAny_holding (wpAny_bind (wpAny_setState_of o1 o3 c5 ?_))
  dsimp only
  rw [byScan_of scn c4 els]
  simp only [↓reduceIte]
  unfold setAddByScan
  refine wpAny_bind (wpAny_bind (wpAny_rule (wpAny_bind (wpAny_setScan_of isk o1 o3 c5 els ?_))))
  cases fi : List.findIdx? (fun e => (sk P w).is k e.2) es.toList with
  | some j =>
    dsimp only
    obtain ⟨j1, j2, _⟩ := List.findIdx?_eq_some_iff_getElem.mp fi
    have sk1 : S k = true := (c3 k).2 ((isTxt_mem c1 k).2 ⟨es.toList[j], List.getElem_mem j1, j2⟩)
    refine wpAny_pure (wpAny_pure ?_)
    have q := hQ s.heap (Heap.SameBut.refl a s.heap) ⟨o, es, ep, t, o1, o2, o3, c1, c2, fun i => by
      rw [Bool.or_eq_true, decide_eq_true_eq, ← c3 i]
      exact ⟨fun z => z.elim id fun e => e ▸ sk1, .inl⟩, c4, c5, by rw [if_pos sk1]; exact c6, c7, c8⟩
    rw [sk1] at q
    exact q
  | none =>
    dsimp only
    have new : k ∉ es.toList.map txtOf := fun z => by
      obtain ⟨e, he, q⟩ := (isTxt_mem c1 k).1 z
      have c := List.findIdx?_eq_none_iff.mp fi e he
      rw [q] at c
      cases c
    have sk0 : S k = false := by
      cases q : S k with
      | false => rfl
      | true => exact absurd ((c3 k).1 q) new
    have q1 := layNew_perm t es ((sk P w).hash k) (.str k tk)
    have q2 := layNew_fits t es ((sk P w).hash k) (.str k tk)
    have q3 := layNew_ris t es ((sk P w).hash k) (.str k tk) c7
    have q4 := layNew_led t es ((sk P w).hash k) (.str k tk)
    generalize layNew t es ((sk P w).hash k) (.str k tk) = Z at q1 q2 q3 q4 ⊢
    obtain ⟨fs, u, dm, gave⟩ := Z
    dsimp only at q1 q2 q3 q4 ⊢
    rw [Array.toList_push] at q1
    have pc : fs.toList.Perm (((sk P w).hash k, Value.str k tk) :: es.toList) := q1.trans (List.perm_append_singleton _ _)
    have pk : (fs.toList.map txtOf).Perm (k :: es.toList.map txtOf) := pc.map txtOf
    have d1 : ∀ e ∈ fs.toList, IsTxt P w e := fun e he => by
      rcases List.mem_cons.mp (pc.mem_iff.mp he) with z | z
      · rw [z]; exact ⟨k, tk, rfl, rfl⟩
      · exact c1 e z
    have d2 : (fs.toList.map txtOf).Nodup := pk.nodup_iff.mpr (List.nodup_cons.mpr ⟨new, c2⟩)
    have d3 : ∀ i, (S i || decide (i = k)) = true ↔ i ∈ fs.toList.map txtOf := fun i => by
      rw [Bool.or_eq_true, decide_eq_true_eq, c3 i, pk.mem_iff, List.mem_cons]
      exact Or.comm
    have zs : fs.size = n + 1 := by rw [← Array.length_toList, pc.length_eq, List.length_cons, Array.length_toList, c6]
    have d4 : fs.size < scanBound := by rw [zs]; exact room
    have d7 : w.params.followText "set-order" = true ∨ u.led = true := c8.imp id fun z => by rw [q4]; exact z
    have fin : ∀ h', Heap.SameBut a s.heap h' → SetX P w h' a (fun j => S j || decide (j = k)) fs.size → Q true { s with heap := h' } := fun h' sb r => by
      have q := hQ h' sb
      rw [sk0] at q
      rw [zs] at r
      exact q r
    refine wpAny_bind (gave_way _ ?_)
    split
    · refine wpAny_bind ?_
      rw [hashByValue_scannable 8 scn]
      refine wpAny_pure (setX_tail (fun b s₁ Q' q => gave_way b q) o1 o2 o3 d1 d2 d3 d4 ?_ ?_ ?_ fun h' sb r => wpAny_pure (fin h' sb r))
      · first | (split <;> first | exact q2 | exact SetTable.fits_plain_off q2) | exact q2
      · first | (split <;> exact q3) | exact q3
      · first | (split <;> exact d7) | exact d7
    · refine wpAny_bind (wpAny_pure ?_)
      simp only [↓reduceIte]
      exact setX_tail (fun b s₁ Q' q => gave_way b q) o1 o2 o3 d1 d2 d3 d4 q2 q3 d7 fun h' sb r => wpAny_pure (fin h' sb r)
theorem SetX.moved {h h' : Heap} (R : SetX P w h a S n) (k : ∀ o, h.get? a = some o → h'.get? a = some o) : SetX P w h' a S n := by
  obtain ⟨o, es, ep, t, o1, r⟩ := R
  exact ⟨o, es, ep, t, k o o1, r⟩
theorem SetX.alike {h : Heap} {S' : Str → Bool} (R : SetX P w h a S n) (e : ∀ k, S' k = S k) : SetX P w h a S' n := by
  have q : S' = S := funext e
  rw [q]; exact R
theorem loopTxt {R : Result → Shared → Prop} {I : Addr} {fp wr : List Addr} {G : Array GenState → Array GenState → Prop} {N : Nat} {Pv : Nat → Value → Prop} {St : Nat → Shared → Prop} (W : WalksS P w A.in1 I fp wr G N Pv St) (Sa : Addr) (off : Sa ∉ fp) (xs : List Str) (lx : xs.length = N) (few : N + 1 < scanBound)
    (val : ∀ i v, Pv i v → ∃ t, v = .str (xs.getD i Str.empty) t) : ∀ (k i : Nat) (s : Shared), N - i = k → i ≤ N → St i s → (∃ m, m ≤ i ∧ SetX P w s.heap Sa (fun z => (xs.take i).any (· == z)) m) →
      (∀ s' m, Moved (Sa :: wr) G s s' → m ≤ N → SetX P w s'.heap Sa (fun z => xs.any (· == z)) m → R (.ok (.ret .none)) s') → codeAny (model P w) A (.builtin "set.update.loop" ⟨[.ref Sa, .ref I], []⟩) R s := by
  have offw : Sa ∉ wr := fun h => off (W.sub _ h)
  have wider : ∀ b ∈ wr, b ∈ Sa :: wr := fun b hb => List.mem_cons_of_mem _ hb
  intro k
  induction k with
  | zero =>
    intro i s hk hi hst hS hR
    obtain rfl : i = N := by omega
    obtain ⟨m, hm, hX⟩ := hS
    refine codeAny_builtin PyProof.Rows.F.entry_set_update_loop ?_
    rw [Around.under_plainId PyProof.Rows.F.plain_set_update_loop _]
    show wpAny _ A.in1 (pyNext (.ref I) >>= _) _ _ s
    refine wpAny_bind (W.done s _ _ hst fun s' mv => ?_)
    show wpAny _ A.in1 (ret Value.none) _ _ s'
    refine wpAny_pure (hR s' m (mv.mono wider) hm ((hX.moved fun o e => mv.heap Sa o offw e).alike fun z => ?_))
    rw [List.take_of_length_le (Nat.le_of_eq lx)]
  | succ k ih =>
    intro i s hk hi hst hS hR
    obtain ⟨m, hm, hX⟩ := hS
    have lt : i < N := by omega
    refine codeAny_builtin PyProof.Rows.F.entry_set_update_loop ?_
    rw [Around.under_plainId PyProof.Rows.F.plain_set_update_loop _]
    show wpAny _ A.in1 (pyNext (.ref I) >>= _) _ _ s
    refine wpAny_bind (W.item i s _ _ lt hst fun v s' hP hst' mv => ?_)
    obtain ⟨t, rfl⟩ := val i v hP
    have hX' := hX.moved (h' := s'.heap) fun o e => mv.heap Sa o offw e
    show wpAny _ A.in1 (holding [Value.str (xs.getD i Str.empty) t] (setAdd Sa (.str (xs.getD i Str.empty) t)) >>= _) _ _ s'
    refine wpAny_bind (wpAny_holding ?_)
    unfold setAdd
    refine wpAny_holding (wpAny_bind ((sk P w).pyHash (k := xs.getD i Str.empty) (strKind_is _ _ _ _) ?_))
    refine setX_add (s := { s' with toks := s'.toks + 1 }) hX' (by omega) fun h' sb hX2 => ?_
    have li : i < xs.length := by omega
    have eD : xs.getD i Str.empty = xs[i] := by simp [li]
    have hX3 : ∃ m, m ≤ i + 1 ∧ SetX P w h' Sa (fun z => (xs.take (i + 1)).any (· == z)) m := by
      refine ⟨_, ?_, hX2.alike fun z => ?_⟩
      · split <;> omega
      · rw [List.take_succ_eq_append_getElem li, List.any_append, eD]
        simp only [List.any_cons, List.any_nil, Bool.or_false]
        congr 1
        by_cases e : z = xs[i]
        · subst e; simp
        · have : (xs[i] == z) = false := beq_eq_false_iff_ne.mpr fun q => e q.symm
          rw [this]; simp [e]
    refine wpAny_pure ⟨plainId_quiet PyProof.Rows.F.plain_set_update_loop _, ih (i + 1) _ (by omega) lt (W.frame _ s' _ _ hst' (Nat.le_succ _) fun b hb o e => ?_) hX3 fun s2 m2 mv2 hm2 hX4 => ?_⟩
    · rw [sb.2 b (fun h : b = Sa => off (by rw [← h]; exact hb))]; exact e
    · refine hR s2 m2 (Moved.trans W.gtrans ((mv.mono wider).then_heap (Nat.le_succ _) fun b o hb e => ?_) mv2) hm2 hX4
      rw [sb.2 b (fun h : b = Sa => hb (by rw [h]; exact List.mem_cons_self))]; exact e
theorem setX_fresh {hp : Heap} {led : Bool} (hl : w.params.followText "set-order" = true ∨ led = true) (e : hp.get? a = some { cls := .type "set", dict := none, data := .set #[] 0 (.fresh 0 0 led) }) : SetX P w hp a (fun _ => false) 0 :=
  ⟨_, #[], 0, _, e, ⟨rfl, rfl, rfl⟩, rfl, (fun e he => by simp at he), (by simp), (fun k => by simp), (by decide), (by rfl), rfl, List.Pairwise.nil, hl⟩
theorem code_set_arg (x : Value) {K : Value → Shared → Prop} (h : ∀ led : Bool, (w.params.followText "set-order" = true ∨ led = true) → K (.ref s.heap.objs.size) { s with heap := s.heap.push { cls := .type "set", dict := none, data := .set #[] 0 (.fresh 0 0 led) } }) :
    codeAny (model P w) A (.call (.builtin "set.__new__") ⟨[.type "set", x], []⟩) (wants K E) s := by
  refine codeAny_of_tree ?_
  show wpAny _ A.in1 (do checkBuiltinCall "set.__new__" ⟨[.type "set", x], []⟩; again (.builtin "set.__new__" ⟨[.type "set", x], []⟩)) _ _ s
  refine wpAny_bind (wpAny_of_eq (PySem.F.newCall_set_1 x) (wpAny_pure ⟨plainId_quiet F.plain_set_new _, codeAny_builtin F.entry_set_new ?_⟩))
  rw [Around.under_plainId F.plain_set_new _]
  unfold Builtin.«set.__new__» Builtin.Frozenset.newClass
  have sub := sub_set_self
  obtain ⟨hp, g, d, tk, os⟩ := s
  dsimp only
  wp_walk
  refine wpAny_askSetting (wpAny_pure ?_)
  dsimp only
  simp only [newObj]
  refine wpAny_bind (wpAny_alloc (wpAny_pure (wpAny_pure (h _ ?_))))
  show _ ∨ (!w.params.followText "set-order") = true
  cases w.params.followText "set-order"
  · exact .inr rfl
  · exact .inl rfl
/-- what set(xs) leaves: the texts, at the first free place -/
abbrev Gathered (P : Program) (w : World) (s : Shared) (xs : List Str) (N : Nat) (h' : Heap) (m : Nat) : Prop :=
  m ≤ N ∧ SetX P w h' s.heap.objs.size (fun z => xs.any (· == z)) m ∧ ∀ b o, b < s.heap.objs.size → s.heap.get? b = some o → h'.get? b = some o
theorem set_of_txts {l : Addr} {vs : Array Value} {xs : List Str} {Q : Value → Shared → Prop} (hh : A.handled = none) (hl : s.heap.IsList l vs) (hv : StrsAre vs.toList xs) (few : vs.size + 1 < scanBound)
    (h : ∀ h' tk m, Gathered P w s xs vs.size h' m → Q (.ref s.heap.objs.size) { s with heap := h', toks := tk }) : wpAny (model P w) A (call (.type "set") [.ref l]) Q E s := by
  obtain ⟨c, tl, hmro⟩ := PySem.F.called_set.mro
  have k1 := PySem.F.called_set.made
  have k2 := PySem.F.called_set.sub
  refine wpAny_call (codeAny_of_tree ?_)
  show wpAny _ _ (callAny (.type "set") _) _ _ _
  refine wpAny_pure ⟨Code.quiet_builtin _ (by decide +kernel), codeAny_builtin PySem.F.entry_type_call ?_⟩
  rw [Around.under_plain (weight_type_call_type "set" [.ref l] []) rfl]
  have k3 := PySem.F.called_set.notType
  have k4 := PySem.F.called_set.canCreate
  have k5 := PySem.F.typeCall_set_1 (.ref l)
  repeat (any_goals (first | assumption | wp_step))
  refine codeAny_mono (code_set_arg (.ref l) (E := E) (K := fun x s1 => ∃ led : Bool, (w.params.followText "set-order" = true ∨ led = true) ∧ x = .ref s.heap.objs.size ∧ s1 = { s with heap := s.heap.push { cls := .type "set", dict := none, data := .set #[] 0 (.fresh 0 0 led) } }) fun led q => ⟨led, q, rfl, rfl⟩) fun r s1 hr => ?_
  cases r with
  | error e => exact hr
  | ok fl =>
    cases fl with
    | ret x =>
      obtain ⟨led, hled, rfl, rfl⟩ := hr
      have e1 : (s.heap.push { cls := .type "set", dict := none, data := .set #[] 0 (.fresh 0 0 led) }).get? s.heap.objs.size = some { cls := .type "set", dict := none, data := .set #[] 0 (.fresh 0 0 led) } := Heap.get?_push_size _ rfl
      have t1 : Shared.TypeIs { s with heap := s.heap.push { cls := .type "set", dict := none, data := .set #[] 0 (.fresh 0 0 led) } } (.ref s.heap.objs.size) "set" := ⟨_, e1, rfl⟩
      have k6 := PySem.F.called_set.init.lookup
      have k7 := PySem.F.called_set.init.bind (.ref s.heap.objs.size)
      repeat (any_goals (first | assumption | wp_step))
      refine codeAny_mono (codeAny_call_builtin (R := wants (fun r s2 => r = .none ∧ ∃ h' tk m, s2 = { s with heap := h', toks := tk } ∧ Gathered P w s xs vs.size h' m) E) PySem.F.called_set.init.plain PySem.F.entry_set_init (check_set_init_1 t1 ?_)) fun r2 s2 hr2 => ?_
      · obtain ⟨⟨oc, od, ot, oz⟩, g1, g2, nl, g3⟩ := hl
        simp only at g2 g3
        subst g2
        subst g3
        have g4 : (s.heap.push { cls := .type "set", dict := none, data := .set #[] 0 (.fresh 0 0 led) }).get? l = some { cls := .type "list", dict := od, data := .seq vs nl, slots := oz } := Heap.get?_push_of_some _ g1
        have k8 := PySem.F.sub_list_set
        have k9 := PySem.F.sub_list_frozenset
        have k10 : (Value.type "list" == Value.type "dict") = false := by decide
        have g5 : (s.heap.push { cls := .type "set", dict := none, data := .set #[] 0 (.fresh 0 0 led) }).IsList l vs := ⟨_, g4, rfl, nl, rfl⟩
        unfold Builtin.«set.__init__» noKeywords Builtin.Frozenset.updateFrom
        generalize hPI : pyIter = PI
        wp_walk
        subst hPI
        refine wpAny_pyIter_list g5 (wpAny_bind (wpAny_runValue ?_))
        have b1 : l < s.heap.objs.size := Heap.lt_size g1
        have b2 : A.in1.in1.in1.handled = none := by simp [hh]
        have b3 : l ≠ (s.heap.push { cls := .type "set", dict := none, data := .set #[] 0 (.fresh 0 0 led) }).objs.size := by
          rw [Heap.size_push]; exact Nat.ne_of_lt (Nat.lt_succ_of_lt b1)
        have b4 : s.heap.objs.size ∉ [(s.heap.push { cls := .type "set", dict := none, data := .set #[] 0 (.fresh 0 0 led) }).objs.size, l] := by
          rw [Heap.size_push]
          intro z
          rcases List.mem_cons.mp z with z | z
          · exact absurd z (Nat.ne_of_lt (Nat.lt_succ_self _))
          · exact absurd (List.mem_singleton.mp z) (Nat.ne_of_gt b1)
        have lx : xs.length = vs.size := by rw [← StrsAre.len_eq hv, Array.length_toList]
        refine loopTxt ((Walks.list b2 _ l b3 vs).toS) s.heap.objs.size b4 xs lx few (fun i v q => SS.strs_at hv i v (by rw [Array.getElem?_toList]; exact q)) (vs.size - 0) 0 _ (by omega) (Nat.zero_le _) ⟨⟨_, Heap.get?_push_size _ rfl, rfl, rfl⟩, (g5.push _)⟩ ⟨0, Nat.le_refl _, ?_⟩ ?_
        · exact (setX_fresh hled (Heap.get?_push_of_some _ e1)).alike fun _ => rfl
        · intro s' m mv hm hX
          obtain ⟨h', g', d', tk', os'⟩ := s'
          obtain rfl : g' = s.gens := mv.gens
          obtain rfl : d' = s.drawn := mv.drawn
          obtain rfl : os' = s.os := mv.os
          show wpAny _ _ _ _ _ _
          refine wpAny_pure ?_
          show wpAny _ _ (ret Value.none) _ _ _
          refine wpAny_pure ⟨rfl, h', tk', m, rfl, hm, hX, fun b o hb e => ?_⟩
          have n2 : b ≠ (s.heap.push { cls := .type "set", dict := none, data := .set #[] 0 (.fresh 0 0 led) }).objs.size := by
            rw [Heap.size_push]; exact Nat.ne_of_lt (Nat.lt_succ_of_lt hb)
          refine mv.heap b o (fun z => ?_) (Heap.get?_push_of_some _ (Heap.get?_push_of_some _ e))
          rcases List.mem_cons.mp z with z | z
          · exact Nat.ne_of_lt hb z
          · exact n2 (List.mem_singleton.mp z)
      · cases r2 with
        | error e => exact hr2
        | ok fl2 =>
          cases fl2 with
          | ret r =>
            obtain ⟨rfl, h', tk, m, rfl, hG⟩ := hr2
            repeat (any_goals (first | assumption | wp_step))
            exact h _ _ m hG
          | _ => exact hr2.elim
    | _ => exact hr.elim
end
end VL
/-! # VT2: sorted(set(texts)), the rule -/
namespace VL
open PySem PySem.Spec PyProof.Rows L2
/-! ### the texts, each once, in order -/
def onceS : List Str → List Str
  | [] => []
  | x :: xs => if x ∈ onceS xs then onceS xs else x :: onceS xs
theorem mem_onceS {z : Str} : ∀ {xs : List Str}, z ∈ onceS xs ↔ z ∈ xs
  | [] => by simp [onceS]
  | x :: xs => by
    have ih := mem_onceS (z := z) (xs := xs)
    have ihx := mem_onceS (z := x) (xs := xs)
    unfold onceS
    split
    · rename_i h
      rw [ih, List.mem_cons]
      exact ⟨.inr, fun q => q.elim (fun e => e ▸ ihx.mp h) id⟩
    · rw [List.mem_cons, List.mem_cons, ih]
theorem nodup_onceS : ∀ xs : List Str, (onceS xs).Nodup
  | [] => by simp [onceS]
  | x :: xs => by
    have ih := nodup_onceS xs
    unfold onceS
    split
    · exact ih
    · exact List.nodup_cons.mpr ⟨‹_›, ih⟩
theorem onceS_length : ∀ xs : List Str, (onceS xs).length ≤ xs.length
  | [] => by simp [onceS]
  | x :: xs => by
    have ih := onceS_length xs
    unfold onceS
    split
    · simp; omega
    · simp; exact ih
def leS (a b : Str) : Bool := decide (a.cps.toList ≤ b.cps.toList)
theorem leS_trans (a b c : Str) (h1 : leS a b = true) (h2 : leS b c = true) : leS a c = true := by
  unfold leS at *
  exact decide_eq_true (List.le_trans (of_decide_eq_true h1) (of_decide_eq_true h2))
theorem leS_total (a b : Str) : (leS a b || leS b a) = true := by
  unfold leS
  rcases List.le_total a.cps.toList b.cps.toList with h | h
  · simp [h]
  · simp [h]
theorem leS_antisymm {a b : Str} (h1 : leS a b = true) (h2 : leS b a = true) : a = b := by
  unfold leS at *
  have e := List.le_antisymm (of_decide_eq_true h1) (of_decide_eq_true h2)
  obtain ⟨x⟩ := a
  obtain ⟨y⟩ := b
  have : x = y := Array.ext' e
  rw [this]
/-- each once, rising -/
def srtX (xs : List Str) : List Str := (onceS xs).mergeSort leS
theorem rising_pair : ∀ (p : Str) (l : List Str), risingS p l = true → (p :: l).Pairwise (fun a b => leS a b = true)
  | p, [], _ => by simp
  | p, x :: r, h => by
    unfold risingS at h
    rw [Bool.and_eq_true] at h
    have ih := rising_pair x r h.2
    have e1 : leS p x = true := by
      unfold leS
      have := h.1
      rw [ltCps_eq] at this
      simpa [List.not_lt] using this
    refine List.pairwise_cons.mpr ⟨fun y hy => ?_, ih⟩
    rcases List.mem_cons.mp hy with rfl | hy
    · exact e1
    · exact leS_trans _ _ _ e1 ((List.pairwise_cons.mp ih).1 y hy)
theorem sortedS_pair : ∀ {l : List Str}, sortedS l = true → l.Pairwise (fun a b => leS a b = true)
  | [], _ => List.Pairwise.nil
  | x :: r, h => rising_pair x r h
theorem srtX_eq {xs ys : List Str} (h1 : ys.Perm (onceS xs)) (h2 : sortedS ys = true) : ys = srtX xs := by
  have p1 := sortedS_pair h2
  have p2 : (srtX xs).Pairwise (fun a b => leS a b = true) := List.pairwise_mergeSort (fun a b c => leS_trans a b c) (fun a b => leS_total a b) _
  have p3 : ys.Perm (srtX xs) := h1.trans (List.mergeSort_perm _ _).symm
  exact p3.eq_of_pairwise (fun a b _ _ x y => leS_antisymm x y) p1 p2
section
variable {P : Program} {w : World} {A : Around} {E : Value → Shared → Prop} {s : Shared} {a : Addr} {S : Str → Bool} {n : Nat}
theorem strs_of : ∀ (l : List Value), (∀ v ∈ l, ∃ x tk, v = Value.str x tk) → ∃ xs : List Str, StrsAre l xs ∧ l.map (fun v => match v with | .str x _ => x | _ => Str.empty) = xs
  | [], _ => ⟨[], .nil, rfl⟩
  | v :: l, h => by
    obtain ⟨x, tk, rfl⟩ := h v List.mem_cons_self
    obtain ⟨xs, h1, h2⟩ := strs_of l fun u hu => h u (List.mem_cons_of_mem _ hu)
    exact ⟨x :: xs, .cons x tk h1, by rw [List.map_cons, h2]⟩
theorem sorted_txts {Q : Value → Shared → Prop} (R : SetX P w s.heap a S n) (hh : A.handled = none)
    (hQ : ∀ s' p (out : Array Value) (c : Nat) (ys : List Str), (∀ b o, s.heap.get? b = some o → s'.heap.get? b = some o) → s'.gens = s.gens → s'.os = s.os → s.heap.objs.size ≤ p → s'.heap.get? p = some (seqObj "list" out c) → StrsAre out.toList ys → sortedS ys = true →
      ys.Nodup → (∀ z, z ∈ ys ↔ S z = true) → ys.length ≤ scanBound → Q (.ref p) s') : wpAny (model P w) A (call (.builtin "sorted") [.ref a]) Q E s := by
  obtain ⟨o, es, ep, t, o1, o2, o3, c1, c2, c3, c4, c5, c6, c7, c8⟩ := R
  refine Calls.call_function_entry kind_sorted plain_sorted entry_sorted (args_sorted1 _) ?_
  unfold Builtin.«sorted»
  refine wpAny_bind (m := checkCount "sorted" 1 1 _) (wpAny_pure (wpAny_bind (collect_set (A := A.in1) hh ⟨o, o1, o2.1, o3⟩ c5 c4 c7 c8 fun s1 vs m1 m2 m3 m4 pm => ?_)))
  obtain ⟨xs, x1, x2⟩ := strs_of vs fun v hv => by
    obtain ⟨e, he, q⟩ := List.mem_map.mp (pm.mem_iff.mp hv)
    obtain ⟨x, tk, g1, _⟩ := c1 e he
    exact ⟨x, tk, by rw [← q]; exact g1⟩
  have px : xs.Perm (es.toList.map txtOf) := by
    rw [← x2]
    have q := pm.map (fun v => match v with | .str x _ => x | _ => Str.empty)
    rw [List.map_map] at q
    exact q
  have lx : vs.length = es.size := by rw [pm.length_eq, List.length_map, Array.length_toList]
  have few : vs.length ≤ sizeLine := by rw [lx]; exact fits_of_scanBound c4
  refine wpAny_bind (wpAny_newList ?_ few)
  have at0 : (s1.heap.push (seqObj "list" vs.toArray 0)).get? s1.heap.objs.size = some (seqObj "list" vs.toArray 0) := Heap.get?_push_size _ rfl
  refine wpAny_bind (wpAny_holding (wpAny_call_entry slot_list_sort ⟨_, at0, rfl⟩ entry_list_sort (list_sort_treeKAny strKind_oneLt at0 x1.keysOf (fun v₁ v₂ rest e => keyKind_strs (by rw [← e]; exact x1)) few fun st' hp hs => ⟨_, rfl, ?_⟩) (args_list_sort _)))
  obtain ⟨ys, y1, y2, y3⟩ := sorted_out_str x1 hp hs
  obtain ⟨c, hc⟩ := sortedHeap_at (vs := vs) (out := (arrOf st').map (·.2)) at0
  have py := y2.trans px
  refine wpAny_pure ⟨_, rfl, hQ _ s1.heap.objs.size ((arrOf st').map (·.2)) c ys (fun b u e => ?_) m3 m4 m2 hc y1 y3 (py.nodup_iff.mpr c2) (fun k => by rw [py.mem_iff, ← c3 k]) ?_⟩
  · have q := m1 b u e
    have lt := Heap.lt_size q
    show (sortedHeap (s1.heap.push (seqObj "list" vs.toArray 0)) s1.heap.objs.size vs ((arrOf st').map (·.2))).get? b = some u
    rw [sortedHeap_old (Nat.ne_of_lt lt) (by rw [size_push']; exact Nat.lt_succ_of_lt lt)]
    exact Heap.get?_push_of_some _ q
  · rw [py.length_eq, List.length_map, Array.length_toList]
    exact Nat.le_of_lt c4
end
def tSortX (K : PySem.W.Frag) (ta : TE) : TE := fun σ H Q => ta σ H fun x H1 => ∃ (l : Addr) (xs : List Str), x = .ref l ∧ SqL K H1 l (xs.map V.str) ∧ xs.length ≤ 4000 ∧ ∀ p, H1 p = none → Q (.ref p) (upd H1 p (.lst ((srtX xs).map V.str)))
section
variable {X : Cx} {W : Wi} {pos : Pos}
theorem pe_sortX {a : Expr} {ta : TE} {p p2 q : Pos} (hc : X.calm = true) (hg : Gl X "sorted") (hm : X.mg "sorted" = none) (hg2 : Gl X "set") (hm2 : X.mg "set" = none) (ha : PE X a ta)
    (na : starEach [a] X.env = (false, eval a X.env) :: starEach [] X.env) :
    PE X (.Call (.Name "sorted" p) [.Call (.Name "set" p2) [a] [] q] [] pos) (tSortX X.K ta) := by
  constructor
  intro pins st σ H Q I h
  refine Call_ (ld_blt I hg hm (by decide +kernel : bootBuiltins "sorted" = some (.builtin "sorted")) ?_)
  apply PyProof.Rows.callWith_builtin1 (PyProof.Rows.args_cons ?_ rfl) rfl rfl
  refine Call_ (ld_blt I hg2 hm2 boot_set ?_)
  have run := ha.run pins st σ H _ I h
  apply PyProof.Rows.callWith_type1 (PyProof.Rows.args_cons (thn run fun v s1 z => PyProof.Rows.args_nil ?_) na) na rfl
  obtain ⟨x, H1, I1, rx, l, xs, ex, hq, hl, q1⟩ := z
  subst ex
  cases rx
  obtain ⟨its, r, pl, _⟩ := I1.list hq
  have hv : StrsAre its xs := r.strs
  have hlen : its.toArray.size = xs.length := by
    have := r.length
    rw [List.length_map] at this
    simp [← this]
  have few : its.toArray.size + 1 < scanBound := by rw [hlen]; unfold scanBound; omega
  refine set_of_txts (I1.ok.hd hc) pl.isList (by simpa using hv) few fun h' tk m hG => ?_
  apply PyProof.Rows.args_nil
  obtain ⟨hm', hX, hk⟩ := hG
  have I2 : Inv X pins σ H1 { s1 with heap := h', toks := tk } := I1.kept fun b o e => hk b o (Heap.lt_size e) e
  obtain ⟨s2, es2⟩ : ∃ s2 : Shared, s2 = { s1 with heap := h', toks := tk } := ⟨_, rfl⟩
  have eh : h' = s2.heap := by rw [es2]
  rw [eh] at hX
  rw [← es2] at I2 ⊢
  refine sorted_txts (s := s2) hX (I2.ok.hd hc) fun s' p out c ys k1 k2 k3 k4 k5 k6 k7 k8 k9 k10 => ?_
  have ey : ys = srtX xs := srtX_eq (List.perm_iff_count.mpr fun z => by
    have n1 := List.Nodup.count (a := z) k8
    have n2 := List.Nodup.count (a := z) (nodup_onceS xs)
    rw [n1, n2]
    have e : z ∈ ys ↔ z ∈ onceS xs := by
      rw [k9 z, mem_onceS, List.any_eq_true]
      exact ⟨fun ⟨y, hy, e⟩ => by rw [← eq_of_beq e]; exact hy, fun hz => ⟨z, hz, by simp⟩⟩
    by_cases hz : z ∈ ys
    · rw [if_pos hz, if_pos (e.mp hz)]
    · rw [if_neg hz, if_neg fun w => hz (e.mpr w)]) k7
  rw [← ey] at q1
  have lp : s2.heap.objs.size ≤ p := k4
  have hn : H1 p = none := I2.hok.fresh lp
  have hlen2 : (ys.map V.str).length ≤ sizeLine := by
    rw [List.length_map]
    exact Nat.le_trans k10 (by decide)
  have J : Inv X pins σ (upd H1 p (.lst (ys.map V.str))) { s2 with heap := s'.heap, gens := s'.gens, drawn := s'.drawn, toks := s'.toks } :=
    I2.call (ch := []) (Un.laid k1 lp hn) (I2.hok.laid k1 lp ⟨hlen2, out.toList, c, vals_of_strs k6, k5⟩) (by rw [k2]; exact I2.bare) (fun _ z => nomatch z)
  have e : s' = { s2 with heap := s'.heap, gens := s'.gens, drawn := s'.drawn, toks := s'.toks } := by
    cases s'
    cases s2
    cases k3
    rfl
  rw [e]
  exact ⟨.ref p, _, J, rfl, q1 p hn⟩
def gSortSet : D → Option D
  | .nd .lst _ ds => (strsD ds).bind fun ss => if ss.length ≤ 4000 then some (.lst true ((srtX ss).map D.str)) else none
  | _ => none
theorem rpl_strs {C : Ct} {R : Addr → Prop} {H : Hp} : ∀ xs : List Str, RpL C R H (xs.map D.str) (xs.map V.str) []
  | [] => RpL.nil
  | x :: xs => by
    have := RpL.cons (C := C) (R := R) (H := H) (d := .str x) (v := .str x) ⟨rfl, rfl⟩ (rpl_strs xs)
    exact this
theorem pf_SortSet {a : Expr} {f : Fb} {p p2 q : Pos} (hc : X.calm = true) (hu : X.A.units + 65 < cLine) (hg : Gl X "sorted") (hm : X.mg "sorted" = none) (hg2 : Gl X "set") (hm2 : X.mg "set" = none) (ha : PB X W a f)
    (na : starEach [a] X.env = (false, eval a X.env) :: starEach [] X.env := by rfl) : PF X W (.Call (.Name "sorted" p) [.Call (.Name "set" p2) [a] [] q] [] pos) (bUn gSortSet f) := pe_imp (pe_sortX hc hg hm hg2 hm2 ha na) fun σ H Q q => by
  obtain ⟨s, R, S, rel, p⟩ := q
  refine tB_seq rel p (fun c h => h) (fun h => h) fun d v H1 T e p k r => ?_
  cases z : gSortSet d with
  | none => rw [z] at p; exact p.elim
  | some d' =>
    rw [z] at p
    unfold gSortSet at z
    split at z
    · obtain ⟨ns, z1, z2⟩ := Option.bind_eq_some_iff.mp z
      split at z2
      · rename_i hl
        cases z2
        obtain ⟨a, vs, S', rfl, sa, ra⟩ := rp_lst r
        rw [ra.strs z1] at sa
        refine ⟨a, ns, rfl, sa, hl, fun b hb => ?_⟩
        have z := rp_newL (C := ct X) (H := H) (rel.same k).dom k hb (rpl_strs (srtX ns)) List.nodup_nil (by simp)
        exact p _ _ _ z.1 z.2.1 z.2.2.1 z.2.2.2
      · cases z2
    · cases z
end
end VL
/-! # VL22: texts: join, split, upper, str, int; the operators together -/
namespace VL
open PySem PySem.Spec PyProof.Rows L2
/-- a text's method of one value -/
def bM1 (g : Str → D → Option D) (f1 f2 : Fb) : Fb := fun s => (f1 s).bind fun d1 => match d1 with
  | .str a => (f2 s).bind fun d2 => Rb.of (g a d2)
  | _ => .stuck
def bM0 (g : Str → Option D) (f1 : Fb) : Fb := fun s => (f1 s).bind fun d1 => match d1 with
  | .str a => Rb.of (g a)
  | _ => .stuck
def jnS (a : Str) : D → Option D
  | .nd .lst _ ds => (strsD ds).bind fun ys => if (ys.map (·.length)).sum + ys.length * a.length ≤ 16777216 then some (.str (Txt.join a ys)) else none
  | .nd .tup _ ds => (strsD ds).bind fun ys => if (ys.map (·.length)).sum + ys.length * a.length ≤ 16777216 then some (.str (Txt.join a ys)) else none
  | _ => none
def spS (a : Str) : D → Option D
  | .str b => if (b.length == 0) = false ∧ a.length + 2 ≤ sizeLine then some (.lst true ((Txt.split a b).map D.str)) else none
  | _ => none
def upS (a : Str) : Option D := if a.length ≤ 5592405 then some (.str (Txt.upper a)) else none
section
variable {X : Cx} {W : Wi} {pos : Pos}
theorem tM1_of {r : V → List V → Hp → VK → Prop} {g : Str → D → Option D} {f1 f2 : Fb} (hg : ∀ a d2 d, g a d2 = some d → ∀ (R : Addr → Prop) (H : Hp) (v2 : V) (S2 : List Addr) (Q : VK), (∀ a, R a → H a ≠ none) → Rp (ct X) R H d2 v2 S2 →
    (∀ v H' T, Same H H' → Rp (ct X) R H' d v T → T.Nodup → (∀ a ∈ T, H a = none) → Q v H') → r (.str a) [v2] H Q) {σ : L2.St} {H : Hp} {Q : VK} (h : tF (ct X) W (bM1 g f1 f2) σ H Q) : tM1 r (tB (ct X) W f1) (tB (ct X) W f2) σ H Q := by
  obtain ⟨s, R, S, rel, p⟩ := h
  refine tB_seq rel p (fun c h => h) (fun h => h) fun d1 v1 H1 T1 e1 p1 k1 r1 => ?_
  cases d1 with
  | str a =>
    refine ⟨⟨a, r1.1⟩, tB_seq (P := PostF (ct X) W R σ H Q) (rel.same k1) p1 (fun c h H' cl k e => h H' cl (k1.trans k) e) (fun h => h) fun d2 v2 H2 T2 e2 p2 k2 r2 => ?_⟩
    cases e : g a d2 with
    | none => rw [e] at p2; exact p2.elim
    | some d =>
      rw [e] at p2
      rw [r1.1]
      exact hg a d2 d e R H2 v2 T2 Q (rel.same (k1.trans k2)).dom r2 (PostF.later (r := .ok d) (k1.trans k2) p2)
  | non => exact p1.elim
  | bl _ => exact p1.elim
  | int _ => exact p1.elim
  | nd _ _ _ => exact p1.elim
theorem tM0_of {r : V → List V → Hp → VK → Prop} {g : Str → Option D} {f1 : Fb} (hg : ∀ a d, g a = some d → ∀ (R : Addr → Prop) (H : Hp) (Q : VK), (∀ a, R a → H a ≠ none) →
    (∀ v H' T, Same H H' → Rp (ct X) R H' d v T → T.Nodup → (∀ a ∈ T, H a = none) → Q v H') → r (.str a) [] H Q) {σ : L2.St} {H : Hp} {Q : VK} (h : tF (ct X) W (bM0 g f1) σ H Q) : tM0 r (tB (ct X) W f1) σ H Q := by
  obtain ⟨s, R, S, rel, p⟩ := h
  refine tB_seq rel p (fun c h => h) (fun h => h) fun d1 v1 H1 T1 e1 p1 k1 r1 => ?_
  cases d1 with
  | str a =>
    cases e : g a with
    | none => simp only [e] at p1; exact p1.elim
    | some d =>
      simp only [e] at p1
      rw [r1.1]
      exact ⟨⟨a, rfl⟩, hg a d e R H1 Q (rel.same k1).dom (PostF.later (r := .ok d) k1 p1)⟩
  | non => exact p1.elim
  | bl _ => exact p1.elim
  | int _ => exact p1.elim
  | nd _ _ _ => exact p1.elim
theorem pf_join {o e : Expr} {f1 f2 : Fb} {apos : Pos} (ho : PB X W o f1) (he : PB X W e f2) (hs : starEach [e] X.env = [(false, eval e X.env)] := by rfl) (hbase : attributeBase o "join" X.env (eval o X.env) = eval o X.env := by rfl) (hline : (apos.endLine == pos.line) = true := by rfl) :
    PF X W (.Call (.Attribute o "join" apos) [e] [] pos) (bM1 jnS f1 f2) := pe_imp (pe_join ho he hs hbase hline) fun σ H Q h => tM1_of (fun a d2 d e R H v2 S2 Q dm r2 q => by
  unfold jnS at e
  split at e
  · rename_i m ds
    obtain ⟨ys, z1, z2⟩ := Option.bind_eq_some_iff.mp e
    split at z2
    · rename_i hl
      cases z2
      obtain ⟨p, vs, S', rfl, sa, ra⟩ := rp_lst r2
      rw [ra.strs z1] at sa
      exact ⟨a, p, ys, rfl, rfl, .inl sa, hl, q _ H [] (Same.refl H) ⟨rfl, rfl⟩ List.nodup_nil (by simp)⟩
    · cases z2
  · rename_i m ds
    obtain ⟨ys, z1, z2⟩ := Option.bind_eq_some_iff.mp e
    split at z2
    · rename_i hl
      cases z2
      obtain ⟨p, vs, rfl, sa, ra⟩ := rp_tup r2
      rw [ra.strs z1] at sa
      exact ⟨a, p, ys, rfl, rfl, .inr sa, hl, q _ H [] (Same.refl H) ⟨rfl, rfl⟩ List.nodup_nil (by simp)⟩
    · cases z2
  · cases e) h
theorem pf_split {o e : Expr} {f1 f2 : Fb} {apos : Pos} (ho : PB X W o f1) (he : PB X W e f2) (hs : starEach [e] X.env = [(false, eval e X.env)] := by rfl) (hbase : attributeBase o "split" X.env (eval o X.env) = eval o X.env := by rfl) (hline : (apos.endLine == pos.line) = true := by rfl) :
    PF X W (.Call (.Attribute o "split" apos) [e] [] pos) (bM1 spS f1 f2) := pe_imp (pe_split ho he hs hbase hline) fun σ H Q h => tM1_of (fun a d2 d e R H v2 S2 Q dm r2 q => by
  unfold spS at e
  split at e
  · rename_i b'
    split at e
    · rename_i hl
      cases e
      rw [r2.1]
      refine ⟨a, b', rfl, rfl, hl.1, hl.2, fun p hp => ?_⟩
      have z := rp_newL (C := ct X) (H := H) dm (Same.refl H) hp (rpl_strs (Txt.split a b')) List.nodup_nil (by simp)
      exact q _ _ _ z.1 z.2.1 z.2.2.1 z.2.2.2
    · cases e
  · cases e) h
theorem pf_upper {o : Expr} {f1 : Fb} {apos : Pos} (ho : PB X W o f1) (hbase : attributeBase o "upper" X.env (eval o X.env) = eval o X.env := by rfl) (hline : (apos.endLine == pos.line) = true := by rfl) :
    PF X W (.Call (.Attribute o "upper" apos) [] [] pos) (bM0 upS f1) := pe_imp (pe_upper ho hbase hline) fun σ H Q h => tM0_of (fun a d e R H Q dm q => by
  unfold upS at e
  split at e
  · rename_i hl
    cases e
    exact ⟨a, rfl, rfl, hl, q _ H [] (Same.refl H) ⟨rfl, rfl⟩ List.nodup_nil (by simp)⟩
  · cases e) h
/-- str(n), str(text) -/
def gStr : List D → Option D
  | [.int i] => if i.natAbs.log2 < 1920 then some (.str (toString i)) else none
  | _ => none
theorem cv_str : CallV X (.type "str") gStr := ⟨_, call_str_int, fun ds d e R H vs S Q dm r q => by
  unfold gStr at e
  split at e
  · split at e
    · rename_i hl
      cases e
      obtain ⟨v, S1, rfl, r1⟩ := rpl1 r
      exact ⟨_, by rw [r1.1], hl, q _ H [] (Same.refl H) ⟨rfl, rfl⟩ List.nodup_nil (by simp)⟩
    · cases e
  · cases e⟩
def gIntS : List D → Option D
  | [.str a] => if a.length ≤ 640 then (PySem.intText? a).map .int else none
  | _ => none
theorem cv_intS : CallV X (.type "int") gIntS := ⟨_, call_int_str, fun ds d e R H vs S Q dm r q => by
  unfold gIntS at e
  split at e
  · split at e
    · rename_i hl
      obtain ⟨n, e1, e2⟩ := Option.map_eq_some_iff.mp e
      subst e2
      obtain ⟨v, S1, rfl, r1⟩ := rpl1 r
      exact ⟨_, n, by rw [r1.1], e1, hl, q _ H [] (Same.refl H) ⟨rfl, rfl⟩ List.nodup_nil (by simp)⟩
    · cases e
  · cases e⟩
def gIntU : List D → Option D := fun ds => match gInt ds with | some d => some d | none => gIntS ds
theorem cv_intU : CallV X (.type "int") gIntU := cv_int.or cv_intS
/-! ### in, not in -/
def gInU (a b : D) : Option D := match gIn a b with | some d => some d | none => gInI false a b
def gNotInU (a b : D) : Option D := match gNotIn a b with | some d => some d | none => gInI true a b
theorem ov_inU (hu : X.A.units + 65 < cLine) : OpV X (compareOp .In) gInU := (ov_in hu).or ov_inI
theorem ov_notInU (hu : X.A.units + 65 < cLine) : OpV X (compareOp .NotIn) gNotInU := (ov_notIn hu).or ov_notInI
/-! ### l.index(x) -/
end
end VL
namespace Pg
open PySem PySem.Spec PyProof.Rows L2 VL
def m_is_width : List D → Rb D := fnD 1 (sRet (oF (bChain gLe gLe (bC (.int 1)) (bVar 0) (bC (.int 64)))))
def m_fits : List D → Rb D := fnD 2 (sRet (oF (bChain gLe gLt (bC (.int 0)) (bVar 1) (bBin gShl (bC (.int 1)) (bVar 0)))))
def m_cut : List D → Rb D := fnD 2 (sRet (oF (bBin gMod (bVar 1) (bBin gShl (bC (.int 1)) (bVar 0)))))
def m_amid : List D → Rb D := fnD 3 (sRet (oF (bBin gXor (bVar 0) (bBin gAnd (bBin gXor (bVar 0) (bVar 1)) (bVar 2)))))
def m_inner : List D → Rb D := fnD 1 (sSeq (sIf (fOr (tsB (bBin gEqU (bBin gIx (bVar 0) (bC (.int 0))) (bC (.str "num")))) (tsB (bBin gEqU (bBin gIx (bVar 0) (bC (.int 0))) (bC (.str "var"))))) (sRet (oF (bLst bNil))) sNext)
  (sRet (oF (bCB gList (bCons (bSl (bVar 0) (bPart (bC (.int 1))) bNoPart) bNil)))))
def m_size_of : Nat → List D → Rb D
  | 0 => fun _ => .stuck
  | n + 1 => fnD 5 (sSeq (sSet 1 (oF (bC (.int 1))))
  (sSeq (sSet 2 (oF (bC (.int 0))))
  (sSeq (sFor (oF (bCall m_inner (bCons (bVar 0) bNil))) (gtName 3) (sSeq (sSet 4 (oF (bCall (m_size_of n) (bCons (bVar 3) bNil))))
  (sSeq (sSet 1 (oF (bBin gAddU (bVar 1) (bBin gIx (bVar 4) (bC (.int 0))))))
  (sSet 2 (oF (bCB gMax (bCons (bVar 2) (bCons (bBin gIx (bVar 4) (bC (.int 1))) bNil))))))))
  (sRet (oTup (osCons (oMove 1) (osCons (oF (bBin gAddU (bVar 2) (bC (.int 1)))) osNil)))))))
def m_vars_read : Nat → List D → Rb D
  | 0 => fun _ => .stuck
  | n + 1 => fnD 3 (sSeq (sIf (tsB (bBin gEqU (bBin gIx (bVar 0) (bC (.int 0))) (bC (.str "var")))) (sRet (oF (bLst (bCons (fShr (bBin gIx (bVar 0) (bC (.int 1)))) bNil)))) sNext)
  (sSeq (sSet 1 (oF (bLst bNil)))
  (sSeq (sFor (oF (bCall m_inner (bCons (bVar 0) bNil))) (gtName 2) (sExt (pName 1) (bCall (m_vars_read n) (bCons (bVar 2) bNil))))
  (sRet (oMove 1)))))
def m_vars_in : List D → Rb D := fnD 1 (sRet (oF (bUn gSortSet (bCall (m_vars_read 45) (bCons (bVar 0) bNil)))))
def m_worth : Nat → List D → Rb D
  | 0 => fun _ => .stuck
  | n + 1 => fnD 5 (sSeq (sIf (tsB (bBin gEqU (bBin gIx (bVar 0) (bC (.int 0))) (bC (.str "num")))) (sRet (oF (bCall m_cut (bCons (bVar 1) (bCons (bBin gIx (bVar 0) (bC (.int 1))) bNil))))) sNext)
  (sSeq (sIf (tsB (bBin gEqU (bBin gIx (bVar 0) (bC (.int 0))) (bC (.str "var")))) (sRet (oF (fShr (bBin gIx (bVar 2) (bBin gIx (bVar 0) (bC (.int 1))))))) sNext)
  (sSeq (sSet 3 (oF (bCall (m_worth n) (bCons (bBin gIx (bVar 0) (bC (.int 1))) (bCons (bVar 1) (bCons (bVar 2) bNil))))))
  (sSeq (sIf (tsB (bBin gEqU (bBin gIx (bVar 0) (bC (.int 0))) (bC (.str "pick")))) (sSeq (sIf (tsB (bBin gNeU (bVar 3) (bC (.int 0)))) (sRet (oF (bCall (m_worth n) (bCons (bBin gIx (bVar 0) (bC (.int 2))) (bCons (bVar 1) (bCons (bVar 2) bNil)))))) sNext)
  (sRet (oF (bCall (m_worth n) (bCons (bBin gIx (bVar 0) (bC (.int 3))) (bCons (bVar 1) (bCons (bVar 2) bNil))))))) sNext)
  (sSeq (sSet 4 (oF (bCall (m_worth n) (bCons (bBin gIx (bVar 0) (bC (.int 2))) (bCons (bVar 1) (bCons (bVar 2) bNil))))))
  (sSeq (sIf (tsB (bBin gEqU (bBin gIx (bVar 0) (bC (.int 0))) (bC (.str "plus")))) (sRet (oF (bCall m_cut (bCons (bVar 1) (bCons (bBin gAddU (bVar 3) (bVar 4)) bNil))))) sNext)
  (sSeq (sIf (tsB (bBin gEqU (bBin gIx (bVar 0) (bC (.int 0))) (bC (.str "minus")))) (sRet (oF (bCall m_cut (bCons (bVar 1) (bCons (bBin gSub (bVar 3) (bVar 4)) bNil))))) sNext)
  (sSeq (sIf (tsB (bBin gEqU (bBin gIx (bVar 0) (bC (.int 0))) (bC (.str "times")))) (sRet (oF (bCall m_cut (bCons (bVar 1) (bCons (bBin gMulU (bVar 3) (bVar 4)) bNil))))) sNext)
  (sSeq (sIf (tsB (bBin gEqU (bBin gIx (bVar 0) (bC (.int 0))) (bC (.str "less")))) (sRet (oF (bCall m_cut (bCons (bVar 1) (bCons (bCB gIntU (bCons (bBin gLt (bVar 3) (bVar 4)) bNil)) bNil))))) sNext)
  (sRet (oF (bCall m_cut (bCons (bVar 1) (bCons (bCB gIntU (bCons (bBin gEqU (bVar 3) (bVar 4)) bNil)) bNil))))))))))))))
def m_wish : List D → Rb D := fnD 5 (sSeq (sIf (tsB (bBin gEqU (bVar 2) (bCB gLen (bCons (bVar 1) bNil)))) (sRet (oF (bC .non))) sNext)
  (sSeq (sSet 4 (oF (fShr (bBin gIx (bVar 1) (bVar 2)))))
  (sSeq (sIf (tsB (bBin gEqU (bBin gIx (bVar 4) (bC (.int 0))) (bC (.str "take")))) (sRet (oF (bTup (bCons (bC (.str "take")) (bCons (fShr (bBin gIx (bVar 4) (bC (.int 1)))) bNil))))) sNext)
  (sSeq (sIf (tsB (bBin gEqU (bBin gIx (bVar 4) (bC (.int 0))) (bC (.str "give")))) (sRet (oF (bTup (bCons (bC (.str "give")) (bCons (fShr (bBin gIx (bVar 4) (bC (.int 1)))) (bCons (bCall (m_worth 45) (bCons (bBin gIx (bVar 4) (bC (.int 2))) (bCons (bVar 0) (bCons (bVar 3) bNil)))) bNil)))))) sNext)
  (sRet (oF (bTup (bCons (bC (.str "own")) bNil))))))))
def m_after : List D → Rb D := fnD 8 (sSeq (sSet 5 (oF (fShr (bBin gIx (bVar 1) (bVar 2)))))
  (sSeq (sSet 6 (oF (bCB gDictU (bCons (bVar 3) bNil))))
  (sSeq (sSet 7 (oF (bBin gAddU (bVar 2) (bC (.int 1)))))
  (sSeq (sIf (tsB (bBin gEqU (bBin gIx (bVar 5) (bC (.int 0))) (bC (.str "take")))) (sPut (pName 6) (bBin gIx (bVar 5) (bC (.int 2))) (oF (fShr (bVar 4)))) (sIf (tsB (bBin gEqU (bBin gIx (bVar 5) (bC (.int 0))) (bC (.str "put")))) (sPut (pName 6) (bBin gIx (bVar 5) (bC (.int 1))) (oF (bCall (m_worth 45) (bCons (bBin gIx (bVar 5) (bC (.int 2))) (bCons (bVar 0) (bCons (bVar 3) bNil)))))) (sIf (fAnd (tsB (bBin gEqU (bBin gIx (bVar 5) (bC (.int 0))) (bC (.str "jump")))) (tsB (bBin gNeU (bCall (m_worth 45) (bCons (bBin gIx (bVar 5) (bC (.int 1))) (bCons (bVar 0) (bCons (bVar 3) bNil)))) (bC (.int 0))))) (sSet 7 (oF (fShr (bBin gIx (bVar 5) (bC (.int 2)))))) sNext)))
  (sRet (oTup (osCons (oMove 7) (osCons (oMove 6) osNil))))))))
def b_is_name_0 : Fs := (sIf (tsB (bBin gNotInU (bVar 1) (bC (.str "abcdefghijklmnopqrstuvwxyz")))) (sRet (oF (bC (.bl false)))) sNext)
def m_is_name : List D → Rb D := fnD 2 (sSeq (sFor (oFrz 0) (gtName 1) b_is_name_0)
  (sRet (oF (bChain gLe gLe (bC (.int 1)) (bCB gLen (bCons (bVar 0) bNil)) (bC (.int 8))))))
def m_need_name : List D → Rb D := fnD 2 (sSeq (sIf (fNot (tsTru (bCall m_is_name (bCons (bVar 0) bNil)))) (sRaise "NoName") sNext)
  (sIf (tsB (bBin gInU (bVar 0) (bVar 1))) (sRaise "Twice") sNext))
def m_need_known : List D → Rb D := fnD 2 (sIf (tsB (bBin gNotInU (bVar 0) (bVar 1))) (sRaise "Unknown") sNext)
def b_own_names_0 : Fs := (sSeq (sExpr (oF (bCall m_need_name (bCons (bVar 3) (bCons (bVar 2) bNil)))))
  (sSeq (sIf (fNot (tsTru (bCall m_fits (bCons (bVar 0) (bCons (bVar 4) bNil))))) (sRaise "NoWord") sNext)
  (sPut (pName 2) (bVar 3) (oF (bC (.bl true))))))
def m_own_names : List D → Rb D := fnD 5 (sSeq (sSet 2 (oF (bC (.nd (.dct []) true []))))
  (sSeq (sFor (oFrz 1) (gtTup 2 (gtCons (gtName 3) (gtCons (gtName 4) gtNil))) b_own_names_0)
  (sRet (oMove 2))))
def b_need_term_0 : Fs := (sExpr (oF (bCall m_need_known (bCons (bVar 4) (bCons (bVar 1) bNil)))))
def m_need_term : List D → Rb D := fnD 5 (sSeq (sTgt (gtTup 2 (gtCons (gtName 2) (gtCons (gtName 3) gtNil))) (oF (bCall (m_size_of 45) (bCons (bVar 0) bNil))))
  (sSeq (sIf (fOr (tsB (bBin gGt (bVar 2) (bC (.int 30)))) (tsB (bBin gGt (bVar 3) (bC (.int 8))))) (sRaise "TooMany") sNext)
  (sFor (oF (bCall m_vars_in (bCons (bVar 0) bNil))) (gtName 4) b_need_term_0)))
def m_need_step : List D → Rb D := fnD 4 (sIf (tsB (bBin gEqU (bBin gIx (bVar 0) (bC (.int 0))) (bC (.str "jump")))) (sSeq (sExpr (oF (bCall m_need_term (bCons (bBin gIx (bVar 0) (bC (.int 1))) (bCons (bVar 2) bNil)))))
  (sIf (fOr (tsB (bBin gLt (bBin gIx (bVar 0) (bC (.int 2))) (bC (.int 0)))) (tsB (bBin gGt (bBin gIx (bVar 0) (bC (.int 2))) (bVar 3)))) (sRaise "NoStep") sNext)) (sIf (tsB (bBin gEqU (bBin gIx (bVar 0) (bC (.int 0))) (bC (.str "put")))) (sSeq (sExpr (oF (bCall m_need_known (bCons (bBin gIx (bVar 0) (bC (.int 1))) (bCons (bVar 2) bNil)))))
  (sExpr (oF (bCall m_need_term (bCons (bBin gIx (bVar 0) (bC (.int 2))) (bCons (bVar 2) bNil)))))) (sSeq (sExpr (oF (bCall m_need_known (bCons (bBin gIx (bVar 0) (bC (.int 1))) (bCons (bVar 1) bNil)))))
  (sIf (tsB (bBin gEqU (bBin gIx (bVar 0) (bC (.int 0))) (bC (.str "take")))) (sExpr (oF (bCall m_need_known (bCons (bBin gIx (bVar 0) (bC (.int 2))) (bCons (bVar 2) bNil))))) (sExpr (oF (bCall m_need_term (bCons (bBin gIx (bVar 0) (bC (.int 2))) (bCons (bVar 2) bNil)))))))))
def b_need_ends_0 : Fs := (sSeq (sExpr (oF (bCall m_need_known (bCons (bVar 5) (bCons (bVar 2) bNil)))))
  (sSeq (sExpr (oF (bCall m_need_known (bCons (bVar 6) (bCons (bVar 2) bNil)))))
  (sSeq (sIf (fOr (tsB (bBin gEqU (bVar 5) (bVar 6))) (fOr (tsB (bBin gLt (bVar 7) (bC (.int 0)))) (fOr (tsB (bBin gGt (bVar 7) (bC (.int 3)))) (fOr (tsB (bBin gLt (bVar 8) (bC (.int 1)))) (tsB (bBin gGt (bVar 8) (bC (.int 3)))))))) (sRaise "NoFerry") sNext)
  (sPut (pName 3) (bVar 4) (oF (bDct ["give", "take"] (bCons (fShr (bVar 5)) (bCons (fShr (bVar 6)) bNil))))))))
def b_need_ends_1 : Fs := (sIf (fAnd (tsB (bBin gInU (bBin gIx (bVar 11) (bC (.int 0))) (bTup (bCons (bC (.str "give")) (bCons (bC (.str "take")) bNil))))) (tsB (bBin gNeU (bBin gIx (bBin gIx (bVar 3) (bBin gIx (bVar 11) (bC (.int 1)))) (bBin gIx (bVar 11) (bC (.int 0)))) (bVar 4)))) (sRaise "NoFerry") sNext)
def b_need_ends_2 : Fs := (sFor (oFrz 10) (gtName 11) b_need_ends_1)
def m_need_ends : List D → Rb D := fnD 13 (sSeq (sSet 2 (oF (bLc (bVar 0) (gtName 12) cYes (fShr (bBin gIx (bVar 12) (bC (.int 0)))) [12])))
  (sSeq (sSet 3 (oF (bC (.nd (.dct []) true []))))
  (sSeq (sFor (oFrz 1) (gtTup 5 (gtCons (gtName 4) (gtCons (gtName 5) (gtCons (gtName 6) (gtCons (gtName 7) (gtCons (gtName 8) gtNil)))))) b_need_ends_0)
  (sFor (oFrz 0) (gtTup 3 (gtCons (gtName 4) (gtCons (gtName 9) (gtCons (gtName 10) gtNil)))) b_need_ends_2))))
def b_made_0 : Fs := (sSeq (sExpr (oF (bCall m_need_name (bCons (bBin gIx (bVar 4) (bC (.int 0))) (bCons (bVar 3) bNil)))))
  (sPut (pName 3) (bBin gIx (bVar 4) (bC (.int 0))) (oF (bC (.bl true)))))
def b_made_1 : Fs := (sExpr (oF (bCall m_need_step (bCons (bVar 11) (bCons (bVar 3) (bCons (bVar 10) (bCons (bCB gLen (bCons (bVar 9) bNil)) bNil)))))))
def b_made_2 : Fs := (sSeq (sExpr (oF (bCall m_need_name (bCons (bVar 7) (bCons (bVar 5) bNil)))))
  (sSeq (sPut (pName 5) (bVar 7) (oF (bC (.bl true))))
  (sSeq (sIf (fOr (tsB (bBin gGt (bCB gLen (bCons (bVar 8) bNil)) (bC (.int 6)))) (tsB (bBin gGt (bCB gLen (bCons (bVar 9) bNil)) (bC (.int 12))))) (sRaise "TooMany") sNext)
  (sSeq (sSet 10 (oF (bCall m_own_names (bCons (bVar 0) (bCons (bVar 8) bNil)))))
  (sSeq (sFor (oFrz 9) (gtName 11) b_made_1)
  (sApp (pName 6) (bTup (bCons (fShr (bVar 7)) (bCons (bCB gTuple (bCons (bVar 8) bNil)) (bCons (bCB gTuple (bCons (bVar 9) bNil)) bNil))))))))))
def m_made : List D → Rb D := fnD 12 (sSeq (sIf (fNot (tsTru (bCall m_is_width (bCons (bVar 0) bNil)))) (sRaise "NoWidth") sNext)
  (sSeq (sIf (fOr (tsB (bBin gGt (bCB gLen (bCons (bVar 1) bNil)) (bC (.int 5)))) (tsB (bBin gGt (bCB gLen (bCons (bVar 2) bNil)) (bC (.int 6))))) (sRaise "TooMany") sNext)
  (sSeq (sSet 3 (oF (bC (.nd (.dct []) true []))))
  (sSeq (sFor (oFrz 2) (gtName 4) b_made_0)
  (sSeq (sSet 5 (oF (bCB gDictU (bCons (bVar 3) bNil))))
  (sSeq (sSet 6 (oF (bLst bNil)))
  (sSeq (sFor (oFrz 1) (gtTup 3 (gtCons (gtName 7) (gtCons (gtName 8) (gtCons (gtName 9) gtNil)))) b_made_2)
  (sSeq (sExpr (oF (bCall m_need_ends (bCons (bVar 6) (bCons (bVar 2) bNil)))))
  (sRet (oTup (osCons (oMove 0) (osCons (oF (bCB gTuple (bCons (bVar 6) bNil))) (osCons (oF (bCB gTuple (bCons (bVar 2) bNil))) osNil)))))))))))))
def b_named_0 : Fs := (sIf (tsB (bBin gEqU (bBin gIx (bVar 2) (bC (.int 0))) (bVar 1))) (sRet (oMove 2)) sNext)
def m_named : List D → Rb D := fnD 3 (sSeq (sFor (oFrz 0) (gtName 2) b_named_0)
  (sRaise "Unknown"))
def m_island_of : List D → Rb D := fnD 2 (sRet (oF (bCall m_named (bCons (bBin gIx (bVar 0) (bC (.int 1))) (bCons (bVar 1) bNil)))))
def m_ferry_of : List D → Rb D := fnD 2 (sRet (oF (bCall m_named (bCons (bBin gIx (bVar 0) (bC (.int 2))) (bCons (bVar 1) bNil)))))
def m_code_of : List D → Rb D := fnD 1 (sRet (oF (bBin gXor (bVar 0) (bBin gDiv (bVar 0) (bC (.int 2))))))
def b_number_of_0 : Fs := (sSeq (sSet 1 (oF (bBin gXor (bVar 1) (bVar 0))))
  (sSet 0 (oF (bBin gDiv (bVar 0) (bC (.int 2))))))
def m_number_of : List D → Rb D := fnD 2 (sSeq (sSet 1 (oF (bC (.int 0))))
  (sSeq (whileL (tsB (bBin gGt (bVar 0) (bC (.int 0)))) b_number_of_0 bigFuel)
  (sRet (oMove 1))))
def m_first_sign : List D → Rb D := fnD 1 (sRet (oTup (osCons (oF (fShr (bVar 0))) (osCons (oF (fShr (bVar 0))) (osCons (oF (bUn gNeg (bC (.int 1)))) osNil)))))
def m_shown : List D → Rb D := fnD 3 (sRet (oTup (osCons (oMove 1) (osCons (oF (fShr (bBin gIx (bVar 0) (bC (.int 0))))) (osCons (oMove 2) osNil)))))
def m_first_sight : List D → Rb D := fnD 3 (sRet (oF (bCB gTuple (bCons (bLcR1 (bVar 1) (gtName 2) cYes (fShr (bVar 0)) [2]) bNil))))
def m_sampled : List D → Rb D := fnD 3 (sSeq (sIf (tsB (bBin gGt (bBin gIx (bVar 0) (bC (.int 2))) (bVar 1))) (sRet (oF (bCall m_amid (bCons (bBin gIx (bVar 0) (bC (.int 1))) (bCons (bBin gIx (bVar 0) (bC (.int 0))) (bCons (bVar 2) bNil)))))) sNext)
  (sRet (oF (fShr (bBin gIx (bVar 0) (bC (.int 0)))))))
def m_moved : List D → Rb D := fnD 2 (sRet (oF (bBin gAddU (bTup (bCons (fShr (bVar 1)) bNil)) (bSl (bVar 0) bNoPart (bPart (bUn gNeg (bC (.int 1))))))))
def m_used : List D → Rb D := fnD 1 (sRet (oF (fShr (bBin gIx (bVar 0) (bUn gNeg (bC (.int 1)))))))
def m_Ferry___init__ : List D → Rm := fnM 4 (sSeq (sFldP (pName 0) "Ferry" "room" (oF (bBin gShl (bC (.int 1)) (bVar 1))))
  (sSeq (sFldP (pName 0) "Ferry" "places" (oF (bLcR1 (bFld "Ferry" "room" (bVar 0)) (gtName 3) cYes (bTup (bCons (bC (.int 0)) (bCons (bC (.int 0)) bNil))) [3])))
  (sSeq (sFldP (pName 0) "Ferry" "put_in" (oF (bC (.int 0))))
  (sSeq (sFldP (pName 0) "Ferry" "brought_out" (oF (bC (.int 0))))
  (sSeq (sFldP (pName 0) "Ferry" "sign_in" (oF (bCall m_first_sign (bCons (bCall m_code_of (bCons (bC (.int 0)) bNil)) bNil))))
  (sSeq (sFldP (pName 0) "Ferry" "sign_out" (oF (bCall m_first_sign (bCons (bCall m_code_of (bCons (bC (.int 0)) bNil)) bNil))))
  (sSeq (sFldP (pName 0) "Ferry" "sight_in" (oF (bCall m_first_sight (bCons (bCall m_code_of (bCons (bC (.int 0)) bNil)) (bCons (bVar 2) bNil)))))
  (sSeq (sFldP (pName 0) "Ferry" "sight_out" (oF (bCall m_first_sight (bCons (bCall m_code_of (bCons (bC (.int 0)) bNil)) (bCons (bVar 2) bNil)))))
  (sSeq (sFldP (pName 0) "Ferry" "giver_rang" (oF (bUn gNeg (bC (.int 1)))))
  (sFldP (pName 0) "Ferry" "taker_rang" (oF (bUn gNeg (bC (.int 1))))))))))))))
def m_Ferry_ring_giver : List D → Rm := fnM 9 (sSeq (sSet 4 (oF (bBin gMod (bBin gSub (bFld "Ferry" "put_in" (bVar 0)) (bCall m_number_of (bCons (bCall m_used (bCons (bFld "Ferry" "sight_out" (bVar 0)) bNil)) bNil))) (bBin gMulU (bC (.int 2)) (bFld "Ferry" "room" (bVar 0))))))
  (sSeq (sSet 5 (oF (fShr (bAnd (bBin gIsNot (bVar 3) (bC .non)) (bBin gLt (bVar 4) (bFld "Ferry" "room" (bVar 0)))))))
  (sSeq (sFldP (pName 0) "Ferry" "places" (oF (bLc (bFld "Ferry" "places" (bVar 0)) (gtName 8) cYes (bTup (bCons (fShr (bBin gIx (bVar 8) (bC (.int 0)))) (bCons (fShr (bBin gIx (bVar 8) (bC (.int 0)))) bNil))) [8])))
  (sSeq (sIf (tsTru (bVar 5)) (sSeq (sSet 6 (oF (bBin gMod (bFld "Ferry" "put_in" (bVar 0)) (bFld "Ferry" "room" (bVar 0)))))
  (sSeq (sPut (pFld (pName 0) "Ferry" "places") (bVar 6) (oF (bTup (bCons (fShr (bVar 3)) (bCons (fShr (bBin gIx (bBin gIx (bFld "Ferry" "places" (bVar 0)) (bVar 6)) (bC (.int 1)))) bNil)))))
  (sFldP (pName 0) "Ferry" "put_in" (oF (bBin gAddU (bFld "Ferry" "put_in" (bVar 0)) (bC (.int 1))))))) sNext)
  (sSeq (sFldP (pName 0) "Ferry" "sign_in" (oF (bCall m_shown (bCons (bFld "Ferry" "sign_in" (bVar 0)) (bCons (bCall m_code_of (bCons (bBin gMod (bFld "Ferry" "put_in" (bVar 0)) (bBin gMulU (bC (.int 2)) (bFld "Ferry" "room" (bVar 0)))) bNil)) (bCons (bVar 1) bNil))))))
  (sSeq (sSet 7 (oF (bCall m_sampled (bCons (bFld "Ferry" "sign_out" (bVar 0)) (bCons (bFld "Ferry" "giver_rang" (bVar 0)) (bCons (bVar 2) bNil))))))
  (sSeq (sFldP (pName 0) "Ferry" "sight_out" (oF (bCall m_moved (bCons (bFld "Ferry" "sight_out" (bVar 0)) (bCons (bVar 7) bNil)))))
  (sSeq (sFldP (pName 0) "Ferry" "giver_rang" (oF (fShr (bVar 1))))
  (sRet (oTup (osCons (oMove 5) (osCons (oMove 7) osNil))))))))))))
def m_Ferry_ring_taker : List D → Rm := fnM 7 (sSeq (sSet 4 (oF (bC .non)))
  (sSeq (sIf (fAnd (tsTru (bVar 3)) (tsB (bBin gNeU (bCall m_number_of (bCons (bCall m_used (bCons (bFld "Ferry" "sight_in" (bVar 0)) bNil)) bNil)) (bBin gMod (bFld "Ferry" "brought_out" (bVar 0)) (bBin gMulU (bC (.int 2)) (bFld "Ferry" "room" (bVar 0))))))) (sSeq (sTgt (gtTup 2 (gtCons (gtName 4) (gtCons (gtName 5) gtNil))) (oF (fShr (bBin gIx (bFld "Ferry" "places" (bVar 0)) (bBin gMod (bFld "Ferry" "brought_out" (bVar 0)) (bFld "Ferry" "room" (bVar 0)))))))
  (sSeq (sIf (tsB (bBin gGt (bFld "Ferry" "giver_rang" (bVar 0)) (bFld "Ferry" "taker_rang" (bVar 0)))) (sSet 4 (oF (bCall m_amid (bCons (bVar 5) (bCons (bVar 4) (bCons (bVar 2) bNil)))))) sNext)
  (sFldP (pName 0) "Ferry" "brought_out" (oF (bBin gAddU (bFld "Ferry" "brought_out" (bVar 0)) (bC (.int 1))))))) sNext)
  (sSeq (sFldP (pName 0) "Ferry" "sign_out" (oF (bCall m_shown (bCons (bFld "Ferry" "sign_out" (bVar 0)) (bCons (bCall m_code_of (bCons (bBin gMod (bFld "Ferry" "brought_out" (bVar 0)) (bBin gMulU (bC (.int 2)) (bFld "Ferry" "room" (bVar 0)))) bNil)) (bCons (bVar 1) bNil))))))
  (sSeq (sSet 6 (oF (bCall m_sampled (bCons (bFld "Ferry" "sign_in" (bVar 0)) (bCons (bFld "Ferry" "taker_rang" (bVar 0)) (bCons (bVar 2) bNil))))))
  (sSeq (sFldP (pName 0) "Ferry" "sight_in" (oF (bCall m_moved (bCons (bFld "Ferry" "sight_in" (bVar 0)) (bCons (bVar 6) bNil)))))
  (sSeq (sFldP (pName 0) "Ferry" "taker_rang" (oF (fShr (bVar 1))))
  (sRet (oTup (osCons (oMove 4) (osCons (oMove 6) osNil))))))))))
def b_Run___init___0 : Fs := (sPut (pName 3) (bVar 4) (oF (fShr (bVar 5))))
def b_Run___init___1 : Fs := (sSeq (sSet 3 (oF (bC (.nd (.dct []) true []))))
  (sSeq (sFor (oF (fShr (bBin gIx (bVar 2) (bC (.int 1))))) (gtTup 2 (gtCons (gtName 4) (gtCons (gtName 5) gtNil))) b_Run___init___0)
  (sPut (pFld (pName 0) "Run" "parts") (bBin gIx (bVar 2) (bC (.int 0))) (oF (bTup (bCons (bC (.int 0)) (bCons (fShr (bVar 3)) (bCons (bC (.int 0)) bNil))))))))
def b_Run___init___2 : Fs := (sSeq (sPut (pFld (pName 0) "Run" "boats") (bBin gIx (bVar 6) (bC (.int 0))) (oF (bNew "Ferry" m_Ferry___init__ (bCons (bBin gIx (bVar 6) (bC (.int 3))) (bCons (bBin gIx (bVar 6) (bC (.int 4))) bNil)))))
  (sSeq (sPut (pFld (pName 0) "Run" "rows_given") (bBin gIx (bVar 6) (bC (.int 0))) (oF (bLst bNil)))
  (sPut (pFld (pName 0) "Run" "rows_taken") (bBin gIx (bVar 6) (bC (.int 0))) (oF (bLst bNil)))))
def m_Run___init__ : List D → Rm := fnM 7 (sSeq (sFldP (pName 0) "Run" "world" (oF (fShr (bVar 1))))
  (sSeq (sFldP (pName 0) "Run" "moment" (oF (bC (.int 0))))
  (sSeq (sFldP (pName 0) "Run" "parts" (oF (bC (.nd (.dct []) true []))))
  (sSeq (sFldP (pName 0) "Run" "boats" (oF (bC (.nd (.dct []) true []))))
  (sSeq (sFldP (pName 0) "Run" "rows_given" (oF (bC (.nd (.dct []) true []))))
  (sSeq (sFldP (pName 0) "Run" "rows_taken" (oF (bC (.nd (.dct []) true []))))
  (sSeq (sFor (oF (fShr (bBin gIx (bVar 1) (bC (.int 1))))) (gtName 2) b_Run___init___1)
  (sFor (oF (fShr (bBin gIx (bVar 1) (bC (.int 2))))) (gtName 6) b_Run___init___2))))))))
def m_Run_side : List D → Rm := fnM 7 (sSeq (sSet 5 (oF (fShr (bAnd (bBin gIsNot (bVar 4) (bC .non)) (bAnd (bBin gGt (bCB gLen (bCons (bVar 4) bNil)) (bC (.int 1))) (bBin gEqU (bBin gIx (bVar 4) (bC (.int 1))) (bBin gIx (bVar 1) (bC (.int 0)))))))))
  (sSeq (sIf (tsB (bBin gEqU (bBin gIx (bVar 1) (bC (.int 1))) (bVar 2))) (sSeq (sSet 6 (oF (bC .non)))
  (sSeq (sIf (fAnd (tsTru (bVar 5)) (tsB (bBin gEqU (bBin gIx (bVar 4) (bC (.int 0))) (bC (.str "give"))))) (sSet 6 (oF (fShr (bBin gIx (bVar 4) (bC (.int 2)))))) sNext)
  (sRet (oMeth (pIx (pFld (pName 0) "Run" "boats") (bBin gIx (bVar 1) (bC (.int 0)))) "Ferry" "ring_giver" (bCons (bFld "Run" "moment" (bVar 0)) (bCons (bVar 3) (bCons (bVar 6) bNil))) m_Ferry_ring_giver)))) sNext)
  (sRet (oMeth (pIx (pFld (pName 0) "Run" "boats") (bBin gIx (bVar 1) (bC (.int 0)))) "Ferry" "ring_taker" (bCons (bFld "Run" "moment" (bVar 0)) (bCons (bVar 3) (bCons (bAnd (bVar 5) (bBin gEqU (bBin gIx (bVar 4) (bC (.int 0))) (bC (.str "take")))) bNil))) m_Ferry_ring_taker))))
def b_Run_rung_0 : Fs := (sSeq (sSet 7 (oF (fShr (bBin gIx (bBin gIx (bFld "Run" "world" (bVar 0)) (bC (.int 2))) (bVar 6)))))
  (sSeq (sIf (tsB (bBin gNotInU (bVar 1) (bTup (bCons (fShr (bBin gIx (bVar 7) (bC (.int 1)))) (bCons (fShr (bBin gIx (bVar 7) (bC (.int 2)))) bNil))))) sCont sNext)
  (sSeq (sSet 8 (oMeth (pName 0) "Run" "side" (bCons (bVar 7) (bCons (bVar 1) (bCons (bBin gShr (bVar 2) (bBin gMulU (bC (.int 8)) (bVar 6))) (bCons (bVar 3) bNil)))) m_Run_side))
  (sSeq (sApp (pName 5) (bTup (bCons (fShr (bBin gIx (bVar 7) (bC (.int 0)))) (bCons (fShr (bBin gIx (bVar 8) (bC (.int 1)))) bNil))))
  (sIf (fAnd (tsB (bBin gIsNot (bVar 3) (bC .non))) (fAnd (tsB (bBin gGt (bCB gLen (bCons (bVar 3) bNil)) (bC (.int 1)))) (tsB (bBin gEqU (bBin gIx (bVar 3) (bC (.int 1))) (bBin gIx (bVar 7) (bC (.int 0))))))) (sSet 4 (oF (fShr (bBin gIx (bVar 8) (bC (.int 0)))))) sNext)))))
def m_Run_rung : List D → Rm := fnM 9 (sSeq (sSet 4 (oF (bC .non)))
  (sSeq (sSet 5 (oF (bLst bNil)))
  (sSeq (sForR1 (bCB gLen (bCons (bBin gIx (bFld "Run" "world" (bVar 0)) (bC (.int 2))) bNil)) (gtName 6) b_Run_rung_0)
  (sRet (oTup (osCons (oMove 4) (osCons (oMove 5) osNil)))))))
def m_Run_ring : List D → Rm := fnM 13 (sSeq (sSet 3 (oF (bCall m_island_of (bCons (bFld "Run" "world" (bVar 0)) (bCons (bVar 1) bNil)))))
  (sSeq (sTgt (gtTup 3 (gtCons (gtName 4) (gtCons (gtName 5) (gtCons (gtName 6) gtNil)))) (oF (fShr (bBin gIx (bFld "Run" "parts" (bVar 0)) (bVar 1)))))
  (sSeq (sSet 7 (oF (bCall m_wish (bCons (bBin gIx (bFld "Run" "world" (bVar 0)) (bC (.int 0))) (bCons (bBin gIx (bVar 3) (bC (.int 2))) (bCons (bVar 4) (bCons (bVar 5) bNil)))))))
  (sSeq (sTgt (gtTup 2 (gtCons (gtName 8) (gtCons (gtName 9) gtNil))) (oMeth (pName 0) "Run" "rung" (bCons (bVar 1) (bCons (bVar 2) (bCons (bVar 7) bNil))) m_Run_rung))
  (sSeq (sFldP (pName 0) "Run" "moment" (oF (bBin gAddU (bFld "Run" "moment" (bVar 0)) (bC (.int 1)))))
  (sSeq (sIf (tsB (bBin gIs (bVar 7) (bC .non))) (sRet (oTup (osCons (oMove 1) (osCons (oMove 4) (osCons (oF (bTup (bCons (bC (.str "done")) bNil))) (osCons (oMove 9) osNil)))))) sNext)
  (sSeq (sIf (fOr (fAnd (tsB (bBin gEqU (bBin gIx (bVar 7) (bC (.int 0))) (bC (.str "take")))) (tsB (bBin gIs (bVar 8) (bC .non)))) (fAnd (tsB (bBin gEqU (bBin gIx (bVar 7) (bC (.int 0))) (bC (.str "give")))) (fNot (tsTru (bVar 8))))) (sRet (oTup (osCons (oMove 1) (osCons (oMove 4) (osCons (oF (bTup (bCons (bC (.str "wait")) (bCons (fShr (bBin gIx (bVar 7) (bC (.int 1)))) bNil)))) (osCons (oMove 9) osNil)))))) sNext)
  (sSeq (sSet 10 (oF (bC .non)))
  (sSeq (sSet 11 (oF (fShr (bVar 7))))
  (sSeq (sIf (tsB (bBin gEqU (bBin gIx (bVar 7) (bC (.int 0))) (bC (.str "take")))) (sSeq (sSet 10 (oF (fShr (bVar 8))))
  (sSeq (sSet 11 (oF (bTup (bCons (bC (.str "take")) (bCons (fShr (bBin gIx (bVar 7) (bC (.int 1)))) (bCons (fShr (bVar 10)) bNil))))))
  (sApp (pIx (pFld (pName 0) "Run" "rows_taken") (bBin gIx (bVar 7) (bC (.int 1)))) (fShr (bVar 10))))) sNext)
  (sSeq (sIf (tsB (bBin gEqU (bBin gIx (bVar 7) (bC (.int 0))) (bC (.str "give")))) (sApp (pIx (pFld (pName 0) "Run" "rows_given") (bBin gIx (bVar 7) (bC (.int 1)))) (fShr (bBin gIx (bVar 7) (bC (.int 2))))) sNext)
  (sSeq (sSet 12 (oF (bCall m_after (bCons (bBin gIx (bFld "Run" "world" (bVar 0)) (bC (.int 0))) (bCons (bBin gIx (bVar 3) (bC (.int 2))) (bCons (bVar 4) (bCons (bVar 5) (bCons (bVar 10) bNil))))))))
  (sSeq (sPut (pFld (pName 0) "Run" "parts") (bVar 1) (oF (bTup (bCons (fShr (bBin gIx (bVar 12) (bC (.int 0)))) (bCons (fShr (bBin gIx (bVar 12) (bC (.int 1)))) (bCons (bBin gAddU (bVar 6) (bC (.int 1))) bNil))))))
  (sRet (oTup (osCons (oMove 1) (osCons (oMove 4) (osCons (oMove 11) (osCons (oMove 9) osNil)))))))))))))))))))
def m_Run_number : List D → Rb D := fnD 2 (sRet (oF (fShr (bBin gIx (bBin gIx (bFld "Run" "parts" (bVar 0)) (bBin gIx (bCall m_island_of (bCons (bFld "Run" "world" (bVar 0)) (bCons (bVar 1) bNil))) (bC (.int 0)))) (bC (.int 0))))))
def m_Run_words : List D → Rb D := fnD 2 (sRet (oF (bCB gDictU (bCons (bBin gIx (bBin gIx (bFld "Run" "parts" (bVar 0)) (bBin gIx (bCall m_island_of (bCons (bFld "Run" "world" (bVar 0)) (bCons (bVar 1) bNil))) (bC (.int 0)))) (bC (.int 1))) bNil))))
def m_Run_steps_done : List D → Rb D := fnD 2 (sRet (oF (fShr (bBin gIx (bBin gIx (bFld "Run" "parts" (bVar 0)) (bBin gIx (bCall m_island_of (bCons (bFld "Run" "world" (bVar 0)) (bCons (bVar 1) bNil))) (bC (.int 0)))) (bC (.int 2))))))
def m_Run_given : List D → Rb D := fnD 2 (sRet (oF (bCB gList (bCons (bBin gIx (bFld "Run" "rows_given" (bVar 0)) (bBin gIx (bCall m_ferry_of (bCons (bFld "Run" "world" (bVar 0)) (bCons (bVar 1) bNil))) (bC (.int 0)))) bNil))))
def m_Run_taken : List D → Rb D := fnD 2 (sRet (oF (bCB gList (bCons (bBin gIx (bFld "Run" "rows_taken" (bVar 0)) (bBin gIx (bCall m_ferry_of (bCons (bFld "Run" "world" (bVar 0)) (bCons (bVar 1) bNil))) (bC (.int 0)))) bNil))))
def b_first_stand_0 : Fs := (sPut (pIx (pName 2) (bVar 3)) (bVar 6) (oF (fShr (bVar 7))))
def b_first_stand_1 : Fs := (sSeq (sPut (pName 1) (bVar 3) (oF (bC (.int 0))))
  (sSeq (sPut (pName 2) (bVar 3) (oF (bC (.nd (.dct []) true []))))
  (sFor (oFrz 4) (gtTup 2 (gtCons (gtName 6) (gtCons (gtName 7) gtNil))) b_first_stand_0)))
def b_first_stand_2 : Fs := (sSeq (sPut (pName 8) (bBin gIx (bVar 10) (bC (.int 0))) (oF (bLst bNil)))
  (sPut (pName 9) (bBin gIx (bVar 10) (bC (.int 0))) (oF (bC (.int 0)))))
def m_first_stand : List D → Rb D := fnD 11 (sSeq (sSet 1 (oF (bC (.nd (.dct []) true []))))
  (sSeq (sSet 2 (oF (bC (.nd (.dct []) true []))))
  (sSeq (sFor (oF (fShr (bBin gIx (bVar 0) (bC (.int 1))))) (gtTup 3 (gtCons (gtName 3) (gtCons (gtName 4) (gtCons (gtName 5) gtNil)))) b_first_stand_1)
  (sSeq (sSet 8 (oF (bC (.nd (.dct []) true []))))
  (sSeq (sSet 9 (oF (bC (.nd (.dct []) true []))))
  (sSeq (sFor (oF (fShr (bBin gIx (bVar 0) (bC (.int 2))))) (gtName 10) b_first_stand_2)
  (sRet (oTup (osCons (oMove 1) (osCons (oMove 2) (osCons (oMove 8) (osCons (oMove 9) osNil))))))))))))
def m_asked_by : List D → Rb D := fnD 4 (sSeq (sSet 3 (oF (bCall m_island_of (bCons (bVar 0) (bCons (bVar 2) bNil)))))
  (sRet (oF (bCall m_wish (bCons (bBin gIx (bVar 0) (bC (.int 0))) (bCons (bBin gIx (bVar 3) (bC (.int 2))) (bCons (bBin gIx (bBin gIx (bVar 1) (bC (.int 0))) (bVar 2)) (bCons (bBin gIx (bBin gIx (bVar 1) (bC (.int 1))) (bVar 2)) bNil))))))))
def m_lets : List D → Rb D := fnD 4 (sSeq (sIf (tsB (bBin gEqU (bBin gIx (bVar 2) (bC (.int 0))) (bC (.str "own")))) (sRet (oF (bC (.bl true)))) sNext)
  (sSeq (sSet 3 (oF (bBin gSub (bCB gLen (bCons (bBin gIx (bBin gIx (bVar 1) (bC (.int 2))) (bBin gIx (bVar 2) (bC (.int 1)))) bNil)) (bBin gIx (bBin gIx (bVar 1) (bC (.int 3))) (bBin gIx (bVar 2) (bC (.int 1)))))))
  (sSeq (sIf (tsB (bBin gEqU (bBin gIx (bVar 2) (bC (.int 0))) (bC (.str "take")))) (sRet (oF (bBin gGt (bVar 3) (bC (.int 0))))) sNext)
  (sRet (oF (bBin gLt (bVar 3) (bBin gShl (bC (.int 1)) (bBin gIx (bCall m_ferry_of (bCons (bVar 0) (bCons (bBin gIx (bVar 2) (bC (.int 1))) bNil))) (bC (.int 3))))))))))
def b_round_of_0 : Fs := (sPut (pName 4) (bVar 5) (oF (bCB gList (bCons (bBin gIx (bBin gIx (bVar 1) (bC (.int 2))) (bVar 5)) bNil))))
def b_round_of_1 : Fs := (sSeq (sPut (pName 3) (bVar 8) (oF (bCB gDictU (bCons (bBin gIx (bBin gIx (bVar 1) (bC (.int 1))) (bVar 8)) bNil))))
  (sSeq (sSet 11 (oF (bCall m_asked_by (bCons (bVar 0) (bCons (bVar 1) (bCons (bVar 8) bNil))))))
  (sIf (fAnd (tsB (bBin gIsNot (bVar 11) (bC .non))) (tsTru (bCall m_lets (bCons (bVar 0) (bCons (bVar 1) (bCons (bVar 11) bNil)))))) (sSeq (sSet 12 (oF (bC .non)))
  (sSeq (sIf (tsB (bBin gEqU (bBin gIx (bVar 11) (bC (.int 0))) (bC (.str "take")))) (sSeq (sSet 12 (oF (fShr (bBin gIx (bBin gIx (bBin gIx (bVar 1) (bC (.int 2))) (bBin gIx (bVar 11) (bC (.int 1)))) (bBin gIx (bBin gIx (bVar 1) (bC (.int 3))) (bBin gIx (bVar 11) (bC (.int 1))))))))
  (sPut (pName 6) (bBin gIx (bVar 11) (bC (.int 1))) (oF (bBin gAddU (bBin gIx (bVar 6) (bBin gIx (bVar 11) (bC (.int 1)))) (bC (.int 1)))))) sNext)
  (sSeq (sIf (tsB (bBin gEqU (bBin gIx (bVar 11) (bC (.int 0))) (bC (.str "give")))) (sApp (pIx (pName 4) (bBin gIx (bVar 11) (bC (.int 1)))) (fShr (bBin gIx (bVar 11) (bC (.int 2))))) sNext)
  (sSeq (sSet 13 (oF (bCall m_after (bCons (bBin gIx (bVar 0) (bC (.int 0))) (bCons (bVar 10) (bCons (bBin gIx (bBin gIx (bVar 1) (bC (.int 0))) (bVar 8)) (bCons (bBin gIx (bBin gIx (bVar 1) (bC (.int 1))) (bVar 8)) (bCons (bVar 12) bNil))))))))
  (sSeq (sPut (pName 2) (bVar 8) (oF (fShr (bBin gIx (bVar 13) (bC (.int 0))))))
  (sSeq (sPut (pName 3) (bVar 8) (oF (fShr (bBin gIx (bVar 13) (bC (.int 1))))))
  (sApp (pName 7) (fShr (bVar 8))))))))) sNext)))
def m_round_of : List D → Rb D := fnD 14 (sSeq (sSet 2 (oF (bCB gDictU (bCons (bBin gIx (bVar 1) (bC (.int 0))) bNil))))
  (sSeq (sSet 3 (oF (bC (.nd (.dct []) true []))))
  (sSeq (sSet 4 (oF (bC (.nd (.dct []) true []))))
  (sSeq (sForU (oF (fShr (bBin gIx (bVar 1) (bC (.int 2))))) (gtName 5) b_round_of_0)
  (sSeq (sSet 6 (oF (bCB gDictU (bCons (bBin gIx (bVar 1) (bC (.int 3))) bNil))))
  (sSeq (sSet 7 (oF (bLst bNil)))
  (sSeq (sFor (oF (fShr (bBin gIx (bVar 0) (bC (.int 1))))) (gtTup 3 (gtCons (gtName 8) (gtCons (gtName 9) (gtCons (gtName 10) gtNil)))) b_round_of_1)
  (sRet (oTup (osCons (oTup (osCons (oMove 2) (osCons (oMove 3) (osCons (oMove 4) (osCons (oMove 6) osNil))))) (osCons (oMove 7) osNil)))))))))))
def m_waited_for : List D → Rb D := fnD 5 (sSeq (sSet 3 (oF (bCall m_asked_by (bCons (bVar 0) (bCons (bVar 1) (bCons (bVar 2) bNil))))))
  (sSeq (sIf (fOr (tsB (bBin gIs (bVar 3) (bC .non))) (tsTru (bCall m_lets (bCons (bVar 0) (bCons (bVar 1) (bCons (bVar 3) bNil)))))) (sRet (oF (bC .non))) sNext)
  (sSeq (sSet 4 (oF (bCall m_ferry_of (bCons (bVar 0) (bCons (bBin gIx (bVar 3) (bC (.int 1))) bNil)))))
  (sSeq (sIf (tsB (bBin gEqU (bBin gIx (bVar 3) (bC (.int 0))) (bC (.str "take")))) (sRet (oF (fShr (bBin gIx (bVar 4) (bC (.int 1)))))) sNext)
  (sRet (oF (fShr (bBin gIx (bVar 4) (bC (.int 2))))))))))
def b_chain_0 : Fs := (sSeq (sApp (pName 3) (fShr (bVar 4)))
  (sSet 4 (oF (bCall m_waited_for (bCons (bVar 0) (bCons (bVar 1) (bCons (bVar 4) bNil)))))))
def m_chain : List D → Rb D := fnD 5 (sSeq (sSet 3 (oF (bLst (bCons (fShr (bVar 2)) bNil))))
  (sSeq (sSet 4 (oF (bCall m_waited_for (bCons (bVar 0) (bCons (bVar 1) (bCons (bVar 2) bNil))))))
  (sSeq (whileL (fAnd (tsB (bBin gIsNot (bVar 4) (bC .non))) (tsB (bBin gNotInU (bVar 4) (bVar 3)))) b_chain_0 bigFuel)
  (sSeq (sIf (tsB (bBin gIsNot (bVar 4) (bC .non))) (sApp (pName 3) (fShr (bVar 4))) sNext)
  (sRet (oMove 3))))))
def b_track_0 : Fs := (sPut (pName 3) (bBin gIx (bVar 4) (bC (.int 0))) (oF (bLst (bCons (bTup (bCons (fShr (bBin gIx (bBin gIx (bVar 2) (bC (.int 0))) (bBin gIx (bVar 4) (bC (.int 0))))) (bCons (bCB gDictU (bCons (bBin gIx (bBin gIx (bVar 2) (bC (.int 1))) (bBin gIx (bVar 4) (bC (.int 0)))) bNil)) bNil))) bNil))))
def b_track_1 : Fs := (sApp (pIx (pName 3) (bVar 7)) (bTup (bCons (fShr (bBin gIx (bBin gIx (bVar 2) (bC (.int 0))) (bVar 7))) (bCons (bCB gDictU (bCons (bBin gIx (bBin gIx (bVar 2) (bC (.int 1))) (bVar 7)) bNil)) bNil))))
def b_track_2 : Fs := (sSeq (sTgt (gtTup 2 (gtCons (gtName 2) (gtCons (gtName 6) gtNil))) (oF (bCall m_round_of (bCons (bVar 0) (bCons (bVar 2) bNil)))))
  (sFor (oFrz 6) (gtName 7) b_track_1))
def m_track : List D → Rb D := fnD 8 (sSeq (sSet 2 (oF (bCall m_first_stand (bCons (bVar 0) bNil))))
  (sSeq (sSet 3 (oF (bC (.nd (.dct []) true []))))
  (sSeq (sFor (oF (fShr (bBin gIx (bVar 0) (bC (.int 1))))) (gtName 4) b_track_0)
  (sSeq (sForR1 (bVar 1) (gtName 5) b_track_2)
  (sRet (oMove 3))))))
def b_run_plain_0 : Fs := (sApp (pName 2) (fShr (bBin gIx (bCall m_round_of (bCons (bVar 0) (bCons (bBin gIx (bVar 2) (bVar 3)) bNil))) (bC (.int 0)))))
def m_run_plain : List D → Rb D := fnD 4 (sSeq (sSet 2 (oF (bLst (bCons (bCall m_first_stand (bCons (bVar 0) bNil)) bNil))))
  (sSeq (sForR1 (bVar 1) (gtName 3) b_run_plain_0)
  (sRet (oMove 2))))
def b_need_code_0 : Fs := (sIf (fNot (tsTru (bCall m_fits (bCons (bC (.int 16)) (bCons (bVar 1) bNil))))) (sRaise "NoCode") sNext)
def m_need_code : List D → Rb D := fnD 2 (sSeq (sIf (fOr (tsB (bBin gLt (bCB gLen (bCons (bVar 0) bNil)) (bC (.int 2)))) (tsB (bBin gGt (bCB gLen (bCons (bVar 0) bNil)) (bC (.int 64))))) (sRaise "NoCode") sNext)
  (sSeq (sFor (oFrz 0) (gtName 1) b_need_code_0)
  (sIf (tsB (bBin gLt (bUn gLenSet (bVar 0)) (bCB gLen (bCons (bVar 0) bNil)))) (sRaise "NoCode") sNext)))
def b_tear_0 : Fs := (sSeq (sSet 2 (oF (fShr (bBin gIx (bVar 0) (bVar 1)))))
  (sSeq (sSet 3 (oF (fShr (bBin gIx (bVar 0) (bBin gMod (bBin gAddU (bVar 1) (bC (.int 1))) (bCB gLen (bCons (bVar 0) bNil)))))))
  (sSeq (sSet 4 (oF (bBin gXor (bVar 2) (bVar 3))))
  (sSeq (sSet 5 (oF (bBin gAnd (bVar 4) (bBin gSub (bVar 4) (bC (.int 1))))))
  (sIf (tsB (bBin gNeU (bVar 5) (bC (.int 0)))) (sRet (oTup (osCons (oMove 1) (osCons (oF (bCall m_amid (bCons (bVar 2) (bCons (bVar 3) (bCons (bBin gSub (bVar 4) (bVar 5)) bNil))))) osNil)))) sNext)))))
def m_tear : List D → Rb D := fnD 6 (sSeq (sExpr (oF (bCall m_need_code (bCons (bVar 0) bNil))))
  (sSeq (sForR1 (bCB gLen (bCons (bVar 0) bNil)) (gtName 1) b_tear_0)
  (sRet (oF (bC .non)))))
end Pg
namespace Lh
open PySem PySem.Spec PyProof.Rows L2 VL
def m__law_cell_at : List D → Rb D := fnD 2 (sSeq (sIf (tsB (bBin gLt (bVar 1) (bCB gLen (bCons (bVar 0) bNil)))) (sRet (oF (fShr (bBin gIx (bVar 0) (bVar 1))))) sNext)
  (sRet (oF (bC (.int 0)))))
def m__law_whole : List D → Rb D := fnD 1 (sRet (oF (fShr (bAnd (bUn (gIsi "int") (bVar 0)) (bNot (bUn (gIsi "bool") (bVar 0)))))))
def m__law_name : List D → Rb D := fnD 8 (sSeq (sSet 2 (oF (bC (.str "abcdefghijklmnopqrstuvwxyz"))))
  (sSeq (sSet 3 (oF (bBin gMod (bBin gDiv (bVar 0) (bC (.int 192))) (bC (.int 26)))))
  (sSeq (sIf (tsB (bBin gEqU (bBin gMod (bVar 0) (bC (.int 3))) (bC (.int 2)))) (sSeq (sSet 4 (oF (fShr (bBin gIx (bVar 2) (bBin gMod (bBin gAddU (bBin gAddU (bVar 3) (bC (.int 1))) (bBin gMod (bBin gDiv (bVar 0) (bC (.int 4992))) (bC (.int 25)))) (bC (.int 26)))))))
  (sRet (oF (bBin gAddU (bBin gMulU (bBin gIx (bVar 2) (bVar 3)) (bBin gAddU (bC (.int 1)) (bBin gMod (bBin gAddU (bBin gMulU (bC (.int 3)) (bVar 1)) (bBin gDiv (bVar 0) (bC (.int 192)))) (bC (.int 7))))) (bBin gMulU (bVar 4) (bBin gDiv (bVar 1) (bC (.int 7)))))))) sNext)
  (sSeq (sSet 5 (oF (bBin gAddU (bC (.int 1)) (bBin gMod (bBin gDiv (bVar 0) (bC (.int 3))) (bC (.int 8))))))
  (sSeq (sSet 6 (oF (bBin gMod (bBin gMod (bBin gDiv (bVar 0) (bC (.int 24))) (bC (.int 8))) (bVar 5))))
  (sSeq (sSet 7 (oF (fShr (bBin gIx (bVar 2) (bBin gMod (bBin gAddU (bBin gDiv (bVar 0) (bC (.int 4992))) (bBin gMulU (bC (.int 7)) (bVar 1))) (bC (.int 26)))))))
  (sRet (oF (bBin gAddU (bBin gAddU (bBin gMulU (bBin gIx (bVar 2) (bVar 3)) (bVar 6)) (bVar 7)) (bBin gMulU (bBin gIx (bVar 2) (bVar 3)) (bBin gSub (bBin gSub (bVar 5) (bC (.int 1))) (bVar 6))))))))))))
def m__law_leaf : List D → Rb D := fnD 2 (sSeq (sIf (fAnd (tsB (bBin gLt (bBin gMod (bVar 0) (bC (.int 4))) (bC (.int 2)))) (tsB (bBin gNeU (bVar 1) (bLst bNil)))) (sRet (oF (bTup (bCons (bC (.str "var")) (bCons (fShr (bBin gIx (bVar 1) (bBin gMod (bBin gDiv (bVar 0) (bC (.int 4))) (bCB gLen (bCons (bVar 1) bNil))))) bNil))))) sNext)
  (sRet (oF (bTup (bCons (bC (.str "num")) (bCons (fShr (bBin gIx (bLst (bCons (bBin gSub (bBin gMod (bBin gDiv (bVar 0) (bC (.int 4))) (bC (.int 11))) (bC (.int 5))) (bCons (bBin gSub (bBin gMod (bBin gDiv (bVar 0) (bC (.int 4))) (bBin gMulU (bC (.int 2)) (bBin gPow (bC (.int 10)) (bC (.int 40))))) (bBin gPow (bC (.int 10)) (bC (.int 40)))) bNil))) (bBin gMod (bVar 0) (bC (.int 2))))) bNil))))))
def b__law_heap_0 : Fs := (sSeq (sSet 4 (oF (fShr (bBin gIx (bLst (bCons (bC (.str "")) (bCons (bC (.str "")) (bCons (bC (.str "")) (bCons (bC (.str "plus")) (bCons (bC (.str "minus")) (bCons (bC (.str "times")) (bCons (bC (.str "less")) (bCons (bC (.str "same")) (bCons (bC (.str "pick")) (bCons (bC (.str "pick")) bNil))))))))))) (bBin gMod (bVar 3) (bC (.int 10)))))))
  (sSeq (sSet 5 (oF (fShr (bBin gIx (bLst (bCons (bC (.int 0)) (bCons (bC (.int 0)) (bCons (bC (.int 0)) (bCons (bC (.int 2)) (bCons (bC (.int 2)) (bCons (bC (.int 2)) (bCons (bC (.int 2)) (bCons (bC (.int 2)) (bCons (bC (.int 3)) (bCons (bC (.int 3)) bNil))))))))))) (bBin gMod (bVar 3) (bC (.int 10)))))))
  (sSeq (sSet 6 (oF (bTup (bCons (bCall m__law_leaf (bCons (bBin gMod (bBin gDiv (bVar 3) (bC (.int 10))) (bBin gPow (bC (.int 10)) (bC (.int 60)))) (bCons (bVar 1) bNil))) (bCons (bC (.int 1)) (bCons (bC (.int 1)) bNil))))))
  (sSeq (sSet 7 (oF (bSl (bVar 2) (bPart (bBin gSub (bCB gLen (bCons (bVar 2) bNil)) (bVar 5))) bNoPart)))
  (sSeq (sIf (fAnd (tsB (bChain gLt gLe (bC (.int 0)) (bVar 5) (bCB gLen (bCons (bVar 2) bNil)))) (tsB (bBin gLt (bCB gMax1 (bCons (bLc (bVar 7) (gtName 9) cYes (fShr (bBin gIx (bVar 9) (bC (.int 2)))) [9]) bNil)) (bC (.int 40))))) (sSeq (sSet 8 (oF (bBin gAddU (bC (.int 1)) (bCB gMax1 (bCons (bLc (bVar 7) (gtName 9) cYes (fShr (bBin gIx (bVar 9) (bC (.int 2)))) [9]) bNil)))))
  (sSeq (sSet 6 (oF (bTup (bCons (bBin gAddU (bTup (bCons (fShr (bVar 4)) bNil)) (bCB gTuple (bCons (bLc (bVar 7) (gtName 9) cYes (fShr (bBin gIx (bVar 9) (bC (.int 0)))) [9]) bNil))) (bCons (bBin gAddU (bC (.int 1)) (bCB gSum (bCons (bLc (bVar 7) (gtName 9) cYes (fShr (bBin gIx (bVar 9) (bC (.int 1)))) [9]) bNil))) (bCons (fShr (bVar 8)) bNil))))))
  (sSet 2 (oF (bSl (bVar 2) bNoPart (bPart (bBin gSub (bCB gLen (bCons (bVar 2) bNil)) (bVar 5)))))))) sNext)
  (sApp (pName 2) (fShr (bVar 6))))))))
def m__law_heap : List D → Rb D := fnD 10 (sSeq (sSet 2 (oF (bLst bNil)))
  (sSeq (sFor (oFrz 0) (gtName 3) b__law_heap_0)
  (sSeq (sIf (tsB (bBin gEqU (bVar 2) (bLst bNil))) (sSet 2 (oF (bLst (bCons (bTup (bCons (bCall m__law_leaf (bCons (bC (.int 0)) (bCons (bVar 1) bNil))) (bCons (bC (.int 1)) (bCons (bC (.int 1)) bNil)))) bNil)))) sNext)
  (sRet (oMove 2)))))
def m__law_value : Nat → List D → Rb D
  | 0 => fun _ => .stuck
  | n + 1 => fnD 5 (sSeq (sIf (tsB (bBin gEqU (bBin gIx (bVar 0) (bC (.int 0))) (bC (.str "num")))) (sRet (oF (bBin gMod (bBin gIx (bVar 0) (bC (.int 1))) (bVar 1)))) sNext)
  (sSeq (sIf (tsB (bBin gEqU (bBin gIx (bVar 0) (bC (.int 0))) (bC (.str "var")))) (sRet (oF (fShr (bBin gIx (bVar 2) (bBin gIx (bVar 0) (bC (.int 1))))))) sNext)
  (sSeq (sSet 3 (oF (bLc (bSl (bVar 0) (bPart (bC (.int 1))) bNoPart) (gtName 4) cYes (bCall (m__law_value n) (bCons (bVar 4) (bCons (bVar 1) (bCons (bVar 2) bNil)))) [4])))
  (sSeq (sIf (tsB (bBin gEqU (bBin gIx (bVar 0) (bC (.int 0))) (bC (.str "plus")))) (sRet (oF (bBin gMod (bBin gAddU (bBin gIx (bVar 3) (bC (.int 0))) (bBin gIx (bVar 3) (bC (.int 1)))) (bVar 1)))) sNext)
  (sSeq (sIf (tsB (bBin gEqU (bBin gIx (bVar 0) (bC (.int 0))) (bC (.str "minus")))) (sRet (oF (bBin gMod (bBin gSub (bBin gAddU (bBin gIx (bVar 3) (bC (.int 0))) (bVar 1)) (bBin gIx (bVar 3) (bC (.int 1)))) (bVar 1)))) sNext)
  (sSeq (sIf (tsB (bBin gEqU (bBin gIx (bVar 0) (bC (.int 0))) (bC (.str "times")))) (sRet (oF (bBin gMod (bBin gMulU (bBin gIx (bVar 3) (bC (.int 0))) (bBin gIx (bVar 3) (bC (.int 1)))) (bVar 1)))) sNext)
  (sSeq (sIf (tsB (bBin gEqU (bBin gIx (bVar 0) (bC (.int 0))) (bC (.str "less")))) (sRet (oF (bCB gIntU (bCons (bBin gLt (bBin gIx (bVar 3) (bC (.int 0))) (bBin gIx (bVar 3) (bC (.int 1)))) bNil)))) sNext)
  (sSeq (sIf (tsB (bBin gEqU (bBin gIx (bVar 0) (bC (.int 0))) (bC (.str "same")))) (sRet (oF (bCB gIntU (bCons (bBin gEqU (bBin gIx (bVar 3) (bC (.int 0))) (bBin gIx (bVar 3) (bC (.int 1)))) bNil)))) sNext)
  (sRet (oF (fShr (bBin gIx (bVar 3) (bBin gAddU (bC (.int 1)) (bCB gIntU (bCons (bBin gEqU (bBin gIx (bVar 3) (bC (.int 0))) (bC (.int 0))) bNil)))))))))))))))
def m__law_small : List D → Rb D := fnD 4 (sSeq (sSet 2 (oF (bTup (bCons (bC (.str "var")) (bCons (fShr (bBin gIx (bVar 1) (bBin gMod (bBin gDiv (bVar 0) (bC (.int 8))) (bCB gLen (bCons (bVar 1) bNil))))) bNil)))))
  (sSeq (sSet 3 (oF (bTup (bCons (bC (.str "num")) (bCons (fShr (bBin gIx (bLst (bCons (bBin gSub (bBin gMod (bBin gDiv (bVar 0) (bC (.int 64))) (bC (.int 7))) (bC (.int 3))) (bCons (bBin gSub (bBin gMod (bBin gDiv (bVar 0) (bC (.int 64))) (bBin gMulU (bC (.int 2)) (bBin gPow (bC (.int 10)) (bC (.int 30))))) (bBin gPow (bC (.int 10)) (bC (.int 30)))) bNil))) (bBin gMod (bBin gDiv (bVar 0) (bC (.int 32))) (bC (.int 2))))) bNil)))))
  (sSeq (sIf (tsB (bBin gLt (bBin gMod (bVar 0) (bC (.int 8))) (bC (.int 2)))) (sRet (oF (fShr (bBin gIx (bLst (bCons (fShr (bVar 2)) (bCons (fShr (bVar 3)) bNil))) (bBin gMod (bVar 0) (bC (.int 2))))))) sNext)
  (sSeq (sIf (tsB (bBin gLt (bBin gMod (bVar 0) (bC (.int 8))) (bC (.int 7)))) (sRet (oTup (osCons (oF (fShr (bBin gIx (bLst (bCons (bC (.str "plus")) (bCons (bC (.str "minus")) (bCons (bC (.str "times")) (bCons (bC (.str "less")) (bCons (bC (.str "same")) bNil)))))) (bBin gSub (bBin gMod (bVar 0) (bC (.int 8))) (bC (.int 2)))))) (osCons (oMove 2) (osCons (oMove 3) osNil))))) sNext)
  (sRet (oTup (osCons (oF (bC (.str "pick"))) (osCons (oF (fShr (bVar 2))) (osCons (oMove 3) (osCons (oTup (osCons (oF (bC (.str "plus"))) (osCons (oF (fShr (bVar 2))) (osCons (oF (bTup (bCons (bC (.str "num")) (bCons (bC (.int 1)) bNil)))) osNil)))) osNil))))))))))
def b__law_steps_0 : Fs := (sSeq (sSet 5 (oF (bBin gMod (bBin gDiv (bVar 4) (bC (.int 16))) (bBin gPow (bC (.int 10)) (bC (.int 60))))))
  (sSeq (sSet 6 (oF (fShr (bBin gIx (bVar 1) (bBin gMod (bBin gDiv (bVar 4) (bC (.int 4))) (bCB gLen (bCons (bVar 1) bNil)))))))
  (sIf (tsB (bBin gEqU (bBin gMod (bVar 4) (bC (.int 4))) (bC (.int 0)))) (sApp (pName 3) (bTup (bCons (bC (.str "take")) (bCons (fShr (bBin gIx (bVar 2) (bBin gMod (bBin gDiv (bVar 4) (bC (.int 4))) (bC (.int 3))))) (bCons (fShr (bVar 6)) bNil))))) (sIf (tsB (bBin gEqU (bBin gMod (bVar 4) (bC (.int 4))) (bC (.int 1)))) (sApp (pName 3) (bTup (bCons (bC (.str "give")) (bCons (fShr (bBin gIx (bVar 2) (bBin gMod (bBin gDiv (bVar 4) (bC (.int 4))) (bC (.int 3))))) (bCons (bCall m__law_small (bCons (bVar 5) (bCons (bVar 1) bNil))) bNil))))) (sIf (tsB (bBin gEqU (bBin gMod (bVar 4) (bC (.int 4))) (bC (.int 2)))) (sApp (pName 3) (bTup (bCons (bC (.str "put")) (bCons (fShr (bVar 6)) (bCons (bCall m__law_small (bCons (bVar 5) (bCons (bVar 1) bNil))) bNil))))) (sApp (pName 3) (bTup (bCons (bC (.str "jump")) (bCons (bCall m__law_small (bCons (bVar 5) (bCons (bVar 1) bNil))) (bCons (bBin gMod (bBin gDiv (bVar 4) (bC (.int 4))) (bBin gAddU (bCB gLen (bCons (bVar 0) bNil)) (bC (.int 1)))) bNil))))))))))
def m__law_steps : List D → Rb D := fnD 7 (sSeq (sSet 3 (oF (bLst bNil)))
  (sSeq (sFor (oFrz 0) (gtName 4) b__law_steps_0)
  (sRet (oMove 3))))
def m__law_due : List D → Rb D := fnD 7 (sSeq (sSet 5 (oF (bCB gDictU (bCons (bVar 3) bNil))))
  (sSeq (sSet 6 (oF (bBin gAddU (bVar 1) (bC (.int 1)))))
  (sSeq (sIf (tsB (bBin gEqU (bBin gIx (bVar 0) (bC (.int 0))) (bC (.str "take")))) (sPut (pName 5) (bBin gIx (bVar 0) (bC (.int 2))) (oF (fShr (bVar 4)))) sNext)
  (sSeq (sIf (tsB (bBin gEqU (bBin gIx (bVar 0) (bC (.int 0))) (bC (.str "put")))) (sPut (pName 5) (bBin gIx (bVar 0) (bC (.int 1))) (oF (bCall (m__law_value 45) (bCons (bBin gIx (bVar 0) (bC (.int 2))) (bCons (bVar 2) (bCons (bVar 3) bNil)))))) sNext)
  (sSeq (sIf (fAnd (tsB (bBin gEqU (bBin gIx (bVar 0) (bC (.int 0))) (bC (.str "jump")))) (tsB (bBin gGt (bCall (m__law_value 45) (bCons (bBin gIx (bVar 0) (bC (.int 1))) (bCons (bVar 2) (bCons (bVar 3) bNil)))) (bC (.int 0))))) (sSet 6 (oF (fShr (bBin gIx (bVar 0) (bC (.int 2)))))) sNext)
  (sRet (oTup (osCons (oMove 6) (osCons (oMove 5) osNil)))))))))
def m__law_is : List D → Rb D := fnD 2 (sSeq (sIf (tsB (bBin gIs (bVar 1) (bC .non))) (sRet (oF (bBin gIs (bVar 0) (bC .non)))) sNext)
  (sSeq (sIf (fOr (fNot (tsTru (bUn (gIsi "tuple") (bVar 0)))) (tsB (bBin gNeU (bVar 0) (bVar 1)))) (sRet (oF (bC (.bl false)))) sNext)
  (sRet (oF (fShr (bOr (bBin gLt (bCB gLen (bCons (bVar 1) bNil)) (bC (.int 3))) (bCall m__law_whole (bCons (bBin gIx (bVar 0) (bC (.int 2))) bNil))))))))
def m__law_names_in : Nat → List D → Rb D
  | 0 => fun _ => .stuck
  | n + 1 => fnD 3 (sSeq (sIf (tsB (bBin gEqU (bBin gIx (bVar 0) (bC (.int 0))) (bC (.str "var")))) (sRet (oF (bLst (bCons (fShr (bBin gIx (bVar 0) (bC (.int 1)))) bNil)))) sNext)
  (sSeq (sSet 1 (oF (bLst bNil)))
  (sSeq (sFor (oF (bSl (bVar 0) (bPart (bC (.int 1))) bNoPart)) (gtName 2) (sIf (tsTru (bUn (gIsi "tuple") (bVar 2))) (sSet 1 (oF (bBin gAddU (bVar 1) (bCall (m__law_names_in n) (bCons (bVar 2) bNil))))) sNext))
  (sRet (oMove 1)))))
end Lh
namespace Gk15
open PySem PySem.Spec PyProof.Rows L2 VL
def b_law_0 : Fs := (sPut (pName 8) (bVar 9) (oF (bBin gMod (bBin gAddU (bBin gDiv (bCall Lh.m__law_cell_at (bCons (bVar 0) (bCons (bC (.int 1)) bNil))) (bC (.int 64))) (bBin gMulU (bC (.int 3)) (bCB gLen (bCons (bVar 8) bNil)))) (bVar 3))))
def b_law_1 : Fs := (sSeq (sIf (fOr (tsB (bBin gEqU (bVar 7) (bCB gLen (bCons (bVar 6) bNil)))) (tsB (bBin gEqU (bBin gMod (bVar 10) (bC (.int 4))) (bC (.int 3))))) (sSet 7 (oF (bBin gMod (bBin gDiv (bVar 10) (bC (.int 4))) (bCB gLen (bCons (bVar 6) bNil))))) sNext)
  (sSeq (sSet 11 (oF (bC .non)))
  (sSeq (sIf (tsB (bBin gEqU (bBin gIx (bBin gIx (bVar 6) (bVar 7)) (bC (.int 0))) (bC (.str "take")))) (sSet 11 (oF (bBin gMod (bBin gDiv (bVar 10) (bC (.int 64))) (bVar 3)))) sNext)
  (sSeq (sSet 12 (oF (bCall Lh.m__law_due (bCons (bBin gIx (bVar 6) (bVar 7)) (bCons (bVar 7) (bCons (bVar 3) (bCons (bVar 8) (bCons (bVar 11) bNil))))))))
  (sSeq (sSet 13 (oF (bCB gDictU (bCons (bVar 8) bNil))))
  (sSeq (sSet 14 (oF (bCall Pg.m_after (bCons (bVar 2) (bCons (bCB gTuple (bCons (bVar 6) bNil)) (bCons (bVar 7) (bCons (bVar 13) (bCons (bVar 11) bNil))))))))
  (sSeq (sIf (fOr (fNot (tsTru (bUn (gIsi "tuple") (bVar 14)))) (fOr (tsB (bBin gNeU (bVar 14) (bVar 12))) (tsB (bBin gNeU (bVar 13) (bVar 8))))) (sRet (oF (bC (.bl false)))) sNext)
  (sSeq (sSet 15 (oF (bLc (bVar 4) (gtName 9) (fNot (tsTru (bCall Lh.m__law_whole (bCons (bBin gIx (bBin gIx (bVar 14) (bC (.int 1))) (bVar 9)) bNil)))) (fShr (bVar 9)) [9])))
  (sSeq (sIf (fOr (tsB (bBin gNeU (bVar 15) (bLst bNil))) (fNot (tsTru (bCall Lh.m__law_whole (bCons (bBin gIx (bVar 14) (bC (.int 0))) bNil))))) (sRet (oF (bC (.bl false)))) sNext)
  (sSeq (sClr (pIx (pName 14) (bC (.int 1))))
  (sSeq (sIf (tsB (bBin gNeU (bCall Pg.m_after (bCons (bVar 2) (bCons (bCB gList (bCons (bVar 6) bNil)) (bCons (bVar 7) (bCons (bVar 13) (bCons (bVar 11) bNil)))))) (bVar 12))) (sRet (oF (bC (.bl false)))) sNext)
  (sTgt (gtTup 2 (gtCons (gtName 7) (gtCons (gtName 8) gtNil))) (oMove 12)))))))))))))
def m_law : List D → Rb D := fnD 17 (sSeq (sSet 1 (oF (bBin gMod (bCall Lh.m__law_cell_at (bCons (bVar 0) (bCons (bC (.int 0)) bNil))) (bBin gPow (bC (.int 10)) (bC (.int 9))))))
  (sSeq (sSet 2 (oF (bBin gAddU (bC (.int 1)) (bBin gMod (bCall Lh.m__law_cell_at (bCons (bVar 0) (bCons (bC (.int 1)) bNil))) (bC (.int 64))))))
  (sSeq (sSet 3 (oF (bBin gShl (bC (.int 1)) (bVar 2))))
  (sSeq (sSet 4 (oF (bLcR1 (bBin gAddU (bC (.int 1)) (bBin gMod (bCall Lh.m__law_cell_at (bCons (bVar 0) (bCons (bC (.int 2)) bNil))) (bC (.int 4)))) (gtName 16) cYes (bCall Lh.m__law_name (bCons (bVar 1) (bCons (bVar 16) bNil))) [16])))
  (sSeq (sSet 5 (oF (bLcR1 (bC (.int 3)) (gtName 16) cYes (bCall Lh.m__law_name (bCons (bVar 1) (bCons (bBin gAddU (bC (.int 4)) (bVar 16)) bNil))) [16])))
  (sSeq (sSet 6 (oF (bCall Lh.m__law_steps (bCons (bSl (bBin gAddU (bSl (bVar 0) (bPart (bC (.int 3))) (bPart (bC (.int 15)))) (bLst (bCons (bC (.int 0)) bNil))) bNoPart (bPart (bBin gAddU (bC (.int 1)) (bBin gMod (bBin gDiv (bCall Lh.m__law_cell_at (bCons (bVar 0) (bCons (bC (.int 2)) bNil))) (bC (.int 4))) (bC (.int 12)))))) (bCons (bVar 4) (bCons (bVar 5) bNil))))))
  (sSeq (sSet 7 (oF (bC (.int 0))))
  (sSeq (sSet 8 (oF (bC (.nd (.dct []) true []))))
  (sSeq (sFor (oFrz 4) (gtName 9) b_law_0)
  (sSeq (sFor (oF (bSl (bVar 0) (bPart (bC (.int 15))) (bPart (bC (.int 95))))) (gtName 10) b_law_1)
  (sRet (oF (bC (.bl true))))))))))))))
end Gk15
namespace Gk15
open PySem PySem.Spec PyProof.Rows L2 VL
def topS (i : Nat) : Stmt := PySem.Challenge.pw_bellferry_k15_behind_a_step.main.body.getD i (.Pass ⟨0, 0, 0, 0⟩)
structure Txt (K : PySem.W.Frag) (mg : Str → Option Value) : Prop where
  z_bool : mg "bool" = none
  z_dict : mg "dict" = none
  z_int : mg "int" = none
  z_isinstance : mg "isinstance" = none
  z_len : mg "len" = none
  z_list : mg "list" = none
  z_range : mg "range" = none
  z_tuple : mg "tuple" = none
  triv : True
section
variable {P : Program} {w : World} {K : PySem.W.Frag} {mg : Str → Option Value} {base : Heap}
theorem sc_cut : FnScope ["width", "number"] ["width", "number"] (defScope (topS 1)) := ⟨rfl, rfl, rfl, by decide +kernel, rfl, by decide +kernel, by decide +kernel⟩
theorem ok_cut {f : Addr} {fd : FuncData} (F : Fun K "cut" "cut" (topS 1) f fd) (T : Txt K mg) (hm : mg "cut" = some (.ref f)) : Cal P w K mg base 1 "cut" 2 Pg.m_cut :=
  ⟨f, fd, ["width", "number"], fnok F sc_cut (by decide) (fun cdv A outer s H E hr =>
  (pssd_one (psd_ret (po_f (pf_op ov_mod (pb_var 1) (pf_b (pf_op ov_shl (pf_b pf_int) (pb_var 0)))))))), hm, F.kp, F.binds fun _ _ _ _ _ _ us hl => match us, hl with | [_, _], _ => rfl⟩
theorem sc_worth : FnScope ["term", "width", "words", "one", "other"] ["term", "width", "words"] (defScope (topS 3)) := ⟨rfl, rfl, rfl, by decide +kernel, rfl, by decide +kernel, by decide +kernel⟩
theorem ok_worth {f : Addr} {fd : FuncData} (F : Fun K "worth" "worth" (topS 3) f fd) (T : Txt K mg) (g_cut : Cal P w K mg base 1 "cut" 2 Pg.m_cut) (hm : mg "worth" = some (.ref f)) : ∀ n : Nat, Cal P w K mg base (n + 1) "worth" 3 (Pg.m_worth n)
  | 0 => ⟨f, fd, ["term", "width", "words"], fnok_stuck, hm, F.kp, F.binds fun _ _ _ _ _ _ us hl => match us, hl with | [_, _, _], _ => rfl⟩
  | n + 1 => by
    have ih := ok_worth F T g_cut hm n
    have e : n + 1 + 1 = (n + 1) + 1 := by omega
    rw [e]
    exact ⟨f, fd, ["term", "width", "words"], fnok F sc_worth (by decide) (fun cdv A outer s H E hr =>
  (pssd_cons (psd_if (pt_cmpV (ov_eqU (hu64 hr)) (pb_ix (hu1 hr) (pb_var 0) (pf_b pf_int)) (pf_b pf_str) (nomark _)) (pssd_one (psd_ret (po_f (pf_cal g_cut tkD hr (by first | decide | omega) rfl (pbs_cons (pb_var 1) (pbs_cons (pb_ix (hu1 hr) (pb_var 0) (pf_b pf_int)) pbs_nil)) (bCons_len (bCons_len bNil_len)))))) pssd_nil)
  (pssd_cons (psd_if (pt_cmpV (ov_eqU (hu64 hr)) (pb_ix (hu1 hr) (pb_var 0) (pf_b pf_int)) (pf_b pf_str) (nomark _)) (pssd_one (psd_ret (po_f (pb_f (pb_ix (hu1 hr) (pb_var 2) (pb_ix (hu1 hr) (pb_var 0) (pf_b pf_int))))))) pssd_nil)
  (pssd_cons (psd_set (i := 3) kpD sc_worth.nd rfl (by first | exact Or.inl rfl | exact Or.inr rfl) (po_f (pf_cal ih tkD hr (by first | decide | omega) rfl (pbs_cons (pb_ix (hu1 hr) (pb_var 0) (pf_b pf_int)) (pbs_cons (pb_var 1) (pbs_cons (pb_var 2) pbs_nil))) (bCons_len (bCons_len (bCons_len bNil_len))))))
  (pssd_cons (psd_if (pt_cmpV (ov_eqU (hu64 hr)) (pb_ix (hu1 hr) (pb_var 0) (pf_b pf_int)) (pf_b pf_str) (nomark _)) (pssd_cons (psd_if (pt_cmpV (ov_neU (hu64 hr)) (pb_var 3) (pf_b pf_int) (nomark _)) (pssd_one (psd_ret (po_f (pf_cal ih tkD hr (by first | decide | omega) rfl (pbs_cons (pb_ix (hu1 hr) (pb_var 0) (pf_b pf_int)) (pbs_cons (pb_var 1) (pbs_cons (pb_var 2) pbs_nil))) (bCons_len (bCons_len (bCons_len bNil_len))))))) pssd_nil)
  (pssd_one (psd_ret (po_f (pf_cal ih tkD hr (by first | decide | omega) rfl (pbs_cons (pb_ix (hu1 hr) (pb_var 0) (pf_b pf_int)) (pbs_cons (pb_var 1) (pbs_cons (pb_var 2) pbs_nil))) (bCons_len (bCons_len (bCons_len bNil_len)))))))) pssd_nil)
  (pssd_cons (psd_set (i := 4) kpD sc_worth.nd rfl (by first | exact Or.inl rfl | exact Or.inr rfl) (po_f (pf_cal ih tkD hr (by first | decide | omega) rfl (pbs_cons (pb_ix (hu1 hr) (pb_var 0) (pf_b pf_int)) (pbs_cons (pb_var 1) (pbs_cons (pb_var 2) pbs_nil))) (bCons_len (bCons_len (bCons_len bNil_len))))))
  (pssd_cons (psd_if (pt_cmpV (ov_eqU (hu64 hr)) (pb_ix (hu1 hr) (pb_var 0) (pf_b pf_int)) (pf_b pf_str) (nomark _)) (pssd_one (psd_ret (po_f (pf_cal g_cut tkD hr (by first | decide | omega) rfl (pbs_cons (pb_var 1) (pbs_cons (pf_b (pf_op ov_add (pb_var 3) (pb_var 4))) pbs_nil)) (bCons_len (bCons_len bNil_len)))))) pssd_nil)
  (pssd_cons (psd_if (pt_cmpV (ov_eqU (hu64 hr)) (pb_ix (hu1 hr) (pb_var 0) (pf_b pf_int)) (pf_b pf_str) (nomark _)) (pssd_one (psd_ret (po_f (pf_cal g_cut tkD hr (by first | decide | omega) rfl (pbs_cons (pb_var 1) (pbs_cons (pf_b (pf_op ov_sub (pb_var 3) (pb_var 4))) pbs_nil)) (bCons_len (bCons_len bNil_len)))))) pssd_nil)
  (pssd_cons (psd_if (pt_cmpV (ov_eqU (hu64 hr)) (pb_ix (hu1 hr) (pb_var 0) (pf_b pf_int)) (pf_b pf_str) (nomark _)) (pssd_one (psd_ret (po_f (pf_cal g_cut tkD hr (by first | decide | omega) rfl (pbs_cons (pb_var 1) (pbs_cons (pf_b (pf_op ov_mul (pb_var 3) (pb_var 4))) pbs_nil)) (bCons_len (bCons_len bNil_len)))))) pssd_nil)
  (pssd_cons (psd_if (pt_cmpV (ov_eqU (hu64 hr)) (pb_ix (hu1 hr) (pb_var 0) (pf_b pf_int)) (pf_b pf_str) (nomark _)) (pssd_one (psd_ret (po_f (pf_cal g_cut tkD hr (by first | decide | omega) rfl (pbs_cons (pb_var 1) (pbs_cons (pf_b (pf_callTy cv_intU rfl T.z_int (by decide +kernel) (pbs_cons (pf_b (pf_cmp ov_lt (pb_var 3) (pb_var 4) (nomark _))) pbs_nil))) pbs_nil)) (bCons_len (bCons_len bNil_len)))))) pssd_nil)
  (pssd_one (psd_ret (po_f (pf_cal g_cut tkD hr (by first | decide | omega) rfl (pbs_cons (pb_var 1) (pbs_cons (pf_b (pf_callTy cv_intU rfl T.z_int (by decide +kernel) (pbs_cons (pf_b (pf_cmp (ov_eqU (hu64 hr)) (pb_var 3) (pb_var 4) (nomark _))) pbs_nil))) pbs_nil)) (bCons_len (bCons_len bNil_len)))))))))))))))), hm, F.kp, F.binds fun _ _ _ _ _ _ us hl => match us, hl with | [_, _, _], _ => rfl⟩
theorem sc_after : FnScope ["width", "steps", "number", "words", "word", "step", "behind", "later"] ["width", "steps", "number", "words", "word"] (defScope (topS 5)) := ⟨rfl, rfl, rfl, by decide +kernel, rfl, by decide +kernel, by decide +kernel⟩
theorem ok_after {f : Addr} {fd : FuncData} (F : Fun K "after" "after" (topS 5) f fd) (T : Txt K mg) (g_worth : Cal P w K mg base 47 "worth" 3 (Pg.m_worth 45)) (hm : mg "after" = some (.ref f)) : Cal P w K mg base 48 "after" 5 Pg.m_after :=
  ⟨f, fd, ["width", "steps", "number", "words", "word"], fnok F sc_after (by decide) (fun cdv A outer s H E hr =>
  (pssd_cons (psd_set (i := 5) kpD sc_after.nd rfl (by first | exact Or.inl rfl | exact Or.inr rfl) (po_f (pb_f (pb_ix (hu1 hr) (pb_var 1) (pb_var 2)))))
  (pssd_cons (psd_set (i := 6) kpD sc_after.nd rfl (by first | exact Or.inl rfl | exact Or.inr rfl) (po_f (pf_callTy (cv_dictU rfl) rfl T.z_dict (by decide +kernel) (pbs_cons (pb_var 3) pbs_nil))))
  (pssd_cons (psd_set (i := 7) kpD sc_after.nd rfl (by first | exact Or.inl rfl | exact Or.inr rfl) (po_f (pf_op ov_add (pb_var 2) (pf_b pf_int))))
  (pssd_cons (psd_if (pt_cmpV (ov_eqU (hu64 hr)) (pb_ix (hu1 hr) (pb_var 5) (pf_b pf_int)) (pf_b pf_str) (nomark _)) (pssd_one (psd_put (hu1 hr) (pth_name 6) (pb_ix (hu1 hr) (pb_var 5) (pf_b pf_int)) (po_f (pb_f (pb_var 4))))) (pssd_one (psd_if (pt_cmpV (ov_eqU (hu64 hr)) (pb_ix (hu1 hr) (pb_var 5) (pf_b pf_int)) (pf_b pf_str) (nomark _)) (pssd_one (psd_put (hu1 hr) (pth_name 6) (pb_ix (hu1 hr) (pb_var 5) (pf_b pf_int)) (po_f (pf_cal g_worth tkD hr (by first | decide | omega) rfl (pbs_cons (pb_ix (hu1 hr) (pb_var 5) (pf_b pf_int)) (pbs_cons (pb_var 0) (pbs_cons (pb_var 3) pbs_nil))) (bCons_len (bCons_len (bCons_len bNil_len))))))) (pssd_one (psd_if (ptb_w (pwb_and (pt_cmpV (ov_eqU (hu64 hr)) (pb_ix (hu1 hr) (pb_var 5) (pf_b pf_int)) (pf_b pf_str) (nomark _)) (pwb_and1 (pt_cmpV (ov_neU (hu64 hr)) (pf_b (pf_cal g_worth tkD hr (by first | decide | omega) rfl (pbs_cons (pb_ix (hu1 hr) (pb_var 5) (pf_b pf_int)) (pbs_cons (pb_var 0) (pbs_cons (pb_var 3) pbs_nil))) (bCons_len (bCons_len (bCons_len bNil_len))))) (pf_b pf_int) (nomark _))))) (pssd_one (psd_set (i := 7) kpD sc_after.nd rfl (by first | exact Or.inl rfl | exact Or.inr rfl) (po_f (pb_f (pb_ix (hu1 hr) (pb_var 5) (pf_b pf_int)))))) pssd_nil)))))
  (pssd_one (psd_ret (po_tup (pos_cons (po_move 7) (pos_cons (po_move 6) pos_nil)))))))))), hm, F.kp, F.binds fun _ _ _ _ _ _ us hl => match us, hl with | [_, _, _, _, _], _ => rfl⟩
theorem sc__law_cell_at : FnScope ["script", "k"] ["script", "k"] (defScope (topS 7)) := ⟨rfl, rfl, rfl, by decide +kernel, rfl, by decide +kernel, by decide +kernel⟩
theorem ok__law_cell_at {f : Addr} {fd : FuncData} (F : Fun K "_law_cell_at" "_law_cell_at" (topS 7) f fd) (T : Txt K mg) (hm : mg "_law_cell_at" = some (.ref f)) : Cal P w K mg base 1 "_law_cell_at" 2 Lh.m__law_cell_at :=
  ⟨f, fd, ["script", "k"], fnok F sc__law_cell_at (by decide) (fun cdv A outer s H E hr =>
  (pssd_cons (psd_if (pt_cmpV ov_lt (pb_var 1) (pf_b (pf_callB cv_len rfl T.z_len PySem.boot_len (pbs_cons (pb_var 0) pbs_nil))) (nomark _)) (pssd_one (psd_ret (po_f (pb_f (pb_ix (hu1 hr) (pb_var 0) (pb_var 1)))))) pssd_nil)
  (pssd_one (psd_ret (po_f pf_int))))), hm, F.kp, F.binds fun _ _ _ _ _ _ us hl => match us, hl with | [_, _], _ => rfl⟩
theorem sc__law_whole : FnScope ["found"] ["found"] (defScope (topS 8)) := ⟨rfl, rfl, rfl, by decide +kernel, rfl, by decide +kernel, by decide +kernel⟩
theorem ok__law_whole {f : Addr} {fd : FuncData} (F : Fun K "_law_whole" "_law_whole" (topS 8) f fd) (T : Txt K mg) (hm : mg "_law_whole" = some (.ref f)) : Cal P w K mg base 1 "_law_whole" 1 Lh.m__law_whole :=
  ⟨f, fd, ["found"], fnok F sc__law_whole (by decide) (fun cdv A outer s H E hr =>
  (pssd_one (psd_ret (po_f (pb_f (pb_and (pf_b (pf_isi (T := "int") rfl T.z_isinstance rfl T.z_int (by decide +kernel) (pb_var 0))) (pb_one (pb_not (pf_b (pf_isi (T := "bool") rfl T.z_isinstance rfl T.z_bool (by decide +kernel) (pb_var 0))))))))))), hm, F.kp, F.binds fun _ _ _ _ _ _ us hl => match us, hl with | [_], _ => rfl⟩
theorem sc__law_name : FnScope ["number", "k", "letters", "fill", "other", "long", "at", "sign"] ["number", "k"] (defScope (topS 9)) := ⟨rfl, rfl, rfl, by decide +kernel, rfl, by decide +kernel, by decide +kernel⟩
theorem ok__law_name {f : Addr} {fd : FuncData} (F : Fun K "_law_name" "_law_name" (topS 9) f fd) (T : Txt K mg) (hm : mg "_law_name" = some (.ref f)) : Cal P w K mg base 1 "_law_name" 2 Lh.m__law_name :=
  ⟨f, fd, ["number", "k"], fnok F sc__law_name (by decide) (fun cdv A outer s H E hr =>
  (pssd_cons (psd_set (i := 2) kpD sc__law_name.nd rfl (by first | exact Or.inl rfl | exact Or.inr rfl) (po_f pf_str))
  (pssd_cons (psd_set (i := 3) kpD sc__law_name.nd rfl (by first | exact Or.inl rfl | exact Or.inr rfl) (po_f (pf_op ov_mod (pf_b (pf_op ov_div (pb_var 0) (pf_b pf_int))) (pf_b pf_int))))
  (pssd_cons (psd_if (pt_cmpV (ov_eqU (hu64 hr)) (pf_b (pf_op ov_mod (pb_var 0) (pf_b pf_int))) (pf_b pf_int) (nomark _)) (pssd_cons (psd_set (i := 4) kpD sc__law_name.nd rfl (by first | exact Or.inl rfl | exact Or.inr rfl) (po_f (pb_f (pb_ix (hu1 hr) (pb_var 2) (pf_b (pf_op ov_mod (pf_b (pf_op ov_add (pf_b (pf_op ov_add (pb_var 3) (pf_b pf_int))) (pf_b (pf_op ov_mod (pf_b (pf_op ov_div (pb_var 0) (pf_b pf_int))) (pf_b pf_int))))) (pf_b pf_int)))))))
  (pssd_one (psd_ret (po_f (pf_op ov_add (pf_b (pf_op ov_mul (pb_ix (hu1 hr) (pb_var 2) (pb_var 3)) (pf_b (pf_op ov_add (pf_b pf_int) (pf_b (pf_op ov_mod (pf_b (pf_op ov_add (pf_b (pf_op ov_mul (pf_b pf_int) (pb_var 1))) (pf_b (pf_op ov_div (pb_var 0) (pf_b pf_int))))) (pf_b pf_int))))))) (pf_b (pf_op ov_mul (pb_var 4) (pf_b (pf_op ov_div (pb_var 1) (pf_b pf_int)))))))))) pssd_nil)
  (pssd_cons (psd_set (i := 5) kpD sc__law_name.nd rfl (by first | exact Or.inl rfl | exact Or.inr rfl) (po_f (pf_op ov_add (pf_b pf_int) (pf_b (pf_op ov_mod (pf_b (pf_op ov_div (pb_var 0) (pf_b pf_int))) (pf_b pf_int))))))
  (pssd_cons (psd_set (i := 6) kpD sc__law_name.nd rfl (by first | exact Or.inl rfl | exact Or.inr rfl) (po_f (pf_op ov_mod (pf_b (pf_op ov_mod (pf_b (pf_op ov_div (pb_var 0) (pf_b pf_int))) (pf_b pf_int))) (pb_var 5))))
  (pssd_cons (psd_set (i := 7) kpD sc__law_name.nd rfl (by first | exact Or.inl rfl | exact Or.inr rfl) (po_f (pb_f (pb_ix (hu1 hr) (pb_var 2) (pf_b (pf_op ov_mod (pf_b (pf_op ov_add (pf_b (pf_op ov_div (pb_var 0) (pf_b pf_int))) (pf_b (pf_op ov_mul (pf_b pf_int) (pb_var 1))))) (pf_b pf_int)))))))
  (pssd_one (psd_ret (po_f (pf_op ov_add (pf_b (pf_op ov_add (pf_b (pf_op ov_mul (pb_ix (hu1 hr) (pb_var 2) (pb_var 3)) (pb_var 6))) (pb_var 7))) (pf_b (pf_op ov_mul (pb_ix (hu1 hr) (pb_var 2) (pb_var 3)) (pf_b (pf_op ov_sub (pf_b (pf_op ov_sub (pb_var 5) (pf_b pf_int))) (pb_var 6)))))))))))))))), hm, F.kp, F.binds fun _ _ _ _ _ _ us hl => match us, hl with | [_, _], _ => rfl⟩
theorem sc__law_small : FnScope ["number", "names", "one", "other"] ["number", "names"] (defScope (topS 10)) := ⟨rfl, rfl, rfl, by decide +kernel, rfl, by decide +kernel, by decide +kernel⟩
theorem ok__law_small {f : Addr} {fd : FuncData} (F : Fun K "_law_small" "_law_small" (topS 10) f fd) (T : Txt K mg) (hm : mg "_law_small" = some (.ref f)) : Cal P w K mg base 1 "_law_small" 2 Lh.m__law_small :=
  ⟨f, fd, ["number", "names"], fnok F sc__law_small (by decide) (fun cdv A outer s H E hr =>
  (pssd_cons (psd_set (i := 2) kpD sc__law_small.nd rfl (by first | exact Or.inl rfl | exact Or.inr rfl) (po_f (pf_tup (pfs_cons pf_str (pfs_cons (pb_f (pb_ix (hu1 hr) (pb_var 1) (pf_b (pf_op ov_mod (pf_b (pf_op ov_div (pb_var 0) (pf_b pf_int))) (pf_b (pf_callB cv_len rfl T.z_len PySem.boot_len (pbs_cons (pb_var 1) pbs_nil))))))) pfs_nil)))))
  (pssd_cons (psd_set (i := 3) kpD sc__law_small.nd rfl (by first | exact Or.inl rfl | exact Or.inr rfl) (po_f (pf_tup (pfs_cons pf_str (pfs_cons (pb_f (pb_ix (hu1 hr) (pf_b (pf_lst (pfs_cons (pf_op ov_sub (pf_b (pf_op ov_mod (pf_b (pf_op ov_div (pb_var 0) (pf_b pf_int))) (pf_b pf_int))) (pf_b pf_int)) (pfs_cons (pf_op ov_sub (pf_b (pf_op ov_mod (pf_b (pf_op ov_div (pb_var 0) (pf_b pf_int))) (pf_b (pf_op ov_mul (pf_b pf_int) (pf_b (pf_op ov_pow (pf_b pf_int) (pf_b pf_int))))))) (pf_b (pf_op ov_pow (pf_b pf_int) (pf_b pf_int)))) pfs_nil)))) (pf_b (pf_op ov_mod (pf_b (pf_op ov_div (pb_var 0) (pf_b pf_int))) (pf_b pf_int))))) pfs_nil)))))
  (pssd_cons (psd_if (pt_cmpV ov_lt (pf_b (pf_op ov_mod (pb_var 0) (pf_b pf_int))) (pf_b pf_int) (nomark _)) (pssd_one (psd_ret (po_f (pb_f (pb_ix (hu1 hr) (pf_b (pf_lst (pfs_cons (pb_f (pb_var 2)) (pfs_cons (pb_f (pb_var 3)) pfs_nil)))) (pf_b (pf_op ov_mod (pb_var 0) (pf_b pf_int)))))))) pssd_nil)
  (pssd_cons (psd_if (pt_cmpV ov_lt (pf_b (pf_op ov_mod (pb_var 0) (pf_b pf_int))) (pf_b pf_int) (nomark _)) (pssd_one (psd_ret (po_tup (pos_cons (po_f (pb_f (pb_ix (hu1 hr) (pf_b (pf_lst (pfs_cons pf_str (pfs_cons pf_str (pfs_cons pf_str (pfs_cons pf_str (pfs_cons pf_str pfs_nil))))))) (pf_b (pf_op ov_sub (pf_b (pf_op ov_mod (pb_var 0) (pf_b pf_int))) (pf_b pf_int)))))) (pos_cons (po_move 2) (pos_cons (po_move 3) pos_nil)))))) pssd_nil)
  (pssd_one (psd_ret (po_tup (pos_cons (po_f pf_str) (pos_cons (po_f (pb_f (pb_var 2))) (pos_cons (po_move 3) (pos_cons (po_tup (pos_cons (po_f pf_str) (pos_cons (po_f (pb_f (pb_var 2))) (pos_cons (po_f (pf_tup (pfs_cons pf_str (pfs_cons pf_int pfs_nil)))) pos_nil)))) pos_nil)))))))))))), hm, F.kp, F.binds fun _ _ _ _ _ _ us hl => match us, hl with | [_, _], _ => rfl⟩
theorem sc__law_steps : FnScope ["cells", "names", "ferries", "steps", "cell", "number", "var"] ["cells", "names", "ferries"] (defScope (topS 11)) := ⟨rfl, rfl, rfl, by decide +kernel, rfl, by decide +kernel, by decide +kernel⟩
theorem ok__law_steps {f : Addr} {fd : FuncData} (F : Fun K "_law_steps" "_law_steps" (topS 11) f fd) (T : Txt K mg) (g__law_small : Cal P w K mg base 1 "_law_small" 2 Lh.m__law_small) (hm : mg "_law_steps" = some (.ref f)) : Cal P w K mg base 2 "_law_steps" 3 Lh.m__law_steps :=
  ⟨f, fd, ["cells", "names", "ferries"], fnok F sc__law_steps (by decide) (fun cdv A outer s H E hr =>
  (pssd_cons (psd_set (i := 3) kpD sc__law_steps.nd rfl (by first | exact Or.inl rfl | exact Or.inr rfl) (po_f (pf_lst pfs_nil)))
  (pssd_cons (psd_for kpD psD rfl (po_frz 0) (pgd_name (i := 4) sc__law_steps.nd rfl (by first | exact Or.inl rfl | exact Or.inr rfl)) (pssd_cons (psd_set (i := 5) kpD sc__law_steps.nd rfl (by first | exact Or.inl rfl | exact Or.inr rfl) (po_f (pf_op ov_mod (pf_b (pf_op ov_div (pb_var 4) (pf_b pf_int))) (pf_b (pf_op ov_pow (pf_b pf_int) (pf_b pf_int))))))
  (pssd_cons (psd_set (i := 6) kpD sc__law_steps.nd rfl (by first | exact Or.inl rfl | exact Or.inr rfl) (po_f (pb_f (pb_ix (hu1 hr) (pb_var 1) (pf_b (pf_op ov_mod (pf_b (pf_op ov_div (pb_var 4) (pf_b pf_int))) (pf_b (pf_callB cv_len rfl T.z_len PySem.boot_len (pbs_cons (pb_var 1) pbs_nil)))))))))
  (pssd_one (psd_if (pt_cmpV (ov_eqU (hu64 hr)) (pf_b (pf_op ov_mod (pb_var 4) (pf_b pf_int))) (pf_b pf_int) (nomark _)) (pssd_one (psd_app (pth_name 3) (pf_tup (pfs_cons pf_str (pfs_cons (pb_f (pb_ix (hu1 hr) (pb_var 2) (pf_b (pf_op ov_mod (pf_b (pf_op ov_div (pb_var 4) (pf_b pf_int))) (pf_b pf_int))))) (pfs_cons (pb_f (pb_var 6)) pfs_nil)))))) (pssd_one (psd_if (pt_cmpV (ov_eqU (hu64 hr)) (pf_b (pf_op ov_mod (pb_var 4) (pf_b pf_int))) (pf_b pf_int) (nomark _)) (pssd_one (psd_app (pth_name 3) (pf_tup (pfs_cons pf_str (pfs_cons (pb_f (pb_ix (hu1 hr) (pb_var 2) (pf_b (pf_op ov_mod (pf_b (pf_op ov_div (pb_var 4) (pf_b pf_int))) (pf_b pf_int))))) (pfs_cons (pf_cal g__law_small tkD hr (by first | decide | omega) rfl (pbs_cons (pb_var 5) (pbs_cons (pb_var 1) pbs_nil)) (bCons_len (bCons_len bNil_len))) pfs_nil)))))) (pssd_one (psd_if (pt_cmpV (ov_eqU (hu64 hr)) (pf_b (pf_op ov_mod (pb_var 4) (pf_b pf_int))) (pf_b pf_int) (nomark _)) (pssd_one (psd_app (pth_name 3) (pf_tup (pfs_cons pf_str (pfs_cons (pb_f (pb_var 6)) (pfs_cons (pf_cal g__law_small tkD hr (by first | decide | omega) rfl (pbs_cons (pb_var 5) (pbs_cons (pb_var 1) pbs_nil)) (bCons_len (bCons_len bNil_len))) pfs_nil)))))) (pssd_one (psd_app (pth_name 3) (pf_tup (pfs_cons pf_str (pfs_cons (pf_cal g__law_small tkD hr (by first | decide | omega) rfl (pbs_cons (pb_var 5) (pbs_cons (pb_var 1) pbs_nil)) (bCons_len (bCons_len bNil_len))) (pfs_cons (pf_op ov_mod (pf_b (pf_op ov_div (pb_var 4) (pf_b pf_int))) (pf_b (pf_op ov_add (pf_b (pf_callB cv_len rfl T.z_len PySem.boot_len (pbs_cons (pb_var 0) pbs_nil))) (pf_b pf_int)))) pfs_nil)))))))))))))))
  (pssd_one (psd_ret (po_move 3)))))), hm, F.kp, F.binds fun _ _ _ _ _ _ us hl => match us, hl with | [_, _, _], _ => rfl⟩
theorem sc__law_value : FnScope ["term", "top", "words", "some", "part"] ["term", "top", "words"] (defScope (topS 12)) := ⟨rfl, rfl, rfl, by decide +kernel, rfl, by decide +kernel, by decide +kernel⟩
theorem ok__law_value {f : Addr} {fd : FuncData} (F : Fun K "_law_value" "_law_value" (topS 12) f fd) (T : Txt K mg) (hm : mg "_law_value" = some (.ref f)) : ∀ n : Nat, Cal P w K mg base (n + 0) "_law_value" 3 (Lh.m__law_value n)
  | 0 => ⟨f, fd, ["term", "top", "words"], fnok_stuck, hm, F.kp, F.binds fun _ _ _ _ _ _ us hl => match us, hl with | [_, _, _], _ => rfl⟩
  | n + 1 => by
    have ih := ok__law_value F T  hm n
    have e : n + 1 + 0 = (n + 0) + 1 := by omega
    rw [e]
    exact ⟨f, fd, ["term", "top", "words"], fnok F sc__law_value (by decide) (fun cdv A outer s H E hr =>
  (pssd_cons (psd_if (pt_cmpV (ov_eqU (hu64 hr)) (pb_ix (hu1 hr) (pb_var 0) (pf_b pf_int)) (pf_b pf_str) (nomark _)) (pssd_one (psd_ret (po_f (pf_op ov_mod (pb_ix (hu1 hr) (pb_var 0) (pf_b pf_int)) (pb_var 1))))) pssd_nil)
  (pssd_cons (psd_if (pt_cmpV (ov_eqU (hu64 hr)) (pb_ix (hu1 hr) (pb_var 0) (pf_b pf_int)) (pf_b pf_str) (nomark _)) (pssd_one (psd_ret (po_f (pb_f (pb_ix (hu1 hr) (pb_var 2) (pb_ix (hu1 hr) (pb_var 0) (pf_b pf_int))))))) pssd_nil)
  (pssd_cons (psd_setLc (i := 3) kpD (own := [("part", 4)]) (t := (gName 4)) rfl sc__law_value.nd rfl rfl (sw_true rfl rfl rfl (by decide +kernel)) (pf_b (pf_slice (pb_var 0) (pp_some (pf_b pf_int)) pp_none)) (blkOk_by (N := ["term", "top", "words", "some", "part"]) (sc := defScope (topS 12)) (by decide +kernel)) (fun _ _ _ _ _ => (pgd_name (i := 4) sc__law_value.nd rfl (by first | exact Or.inl rfl | exact Or.inr rfl))) (fun _ _ _ _ _ => ptsd_nil) (fun _ _ _ _ _ => (pf_cal ih tkB hr (by first | decide | omega) rfl (pbs_cons (pb_var 4) (pbs_cons (pb_var 1) (pbs_cons (pb_var 2) pbs_nil))) (bCons_len (bCons_len (bCons_len bNil_len))))))
  (pssd_cons (psd_if (pt_cmpV (ov_eqU (hu64 hr)) (pb_ix (hu1 hr) (pb_var 0) (pf_b pf_int)) (pf_b pf_str) (nomark _)) (pssd_one (psd_ret (po_f (pf_op ov_mod (pf_b (pf_op ov_add (pb_ix (hu1 hr) (pb_var 3) (pf_b pf_int)) (pb_ix (hu1 hr) (pb_var 3) (pf_b pf_int)))) (pb_var 1))))) pssd_nil)
  (pssd_cons (psd_if (pt_cmpV (ov_eqU (hu64 hr)) (pb_ix (hu1 hr) (pb_var 0) (pf_b pf_int)) (pf_b pf_str) (nomark _)) (pssd_one (psd_ret (po_f (pf_op ov_mod (pf_b (pf_op ov_sub (pf_b (pf_op ov_add (pb_ix (hu1 hr) (pb_var 3) (pf_b pf_int)) (pb_var 1))) (pb_ix (hu1 hr) (pb_var 3) (pf_b pf_int)))) (pb_var 1))))) pssd_nil)
  (pssd_cons (psd_if (pt_cmpV (ov_eqU (hu64 hr)) (pb_ix (hu1 hr) (pb_var 0) (pf_b pf_int)) (pf_b pf_str) (nomark _)) (pssd_one (psd_ret (po_f (pf_op ov_mod (pf_b (pf_op ov_mul (pb_ix (hu1 hr) (pb_var 3) (pf_b pf_int)) (pb_ix (hu1 hr) (pb_var 3) (pf_b pf_int)))) (pb_var 1))))) pssd_nil)
  (pssd_cons (psd_if (pt_cmpV (ov_eqU (hu64 hr)) (pb_ix (hu1 hr) (pb_var 0) (pf_b pf_int)) (pf_b pf_str) (nomark _)) (pssd_one (psd_ret (po_f (pf_callTy cv_intU rfl T.z_int (by decide +kernel) (pbs_cons (pf_b (pf_cmp ov_lt (pb_ix (hu1 hr) (pb_var 3) (pf_b pf_int)) (pb_ix (hu1 hr) (pb_var 3) (pf_b pf_int)) (nomark _))) pbs_nil))))) pssd_nil)
  (pssd_cons (psd_if (pt_cmpV (ov_eqU (hu64 hr)) (pb_ix (hu1 hr) (pb_var 0) (pf_b pf_int)) (pf_b pf_str) (nomark _)) (pssd_one (psd_ret (po_f (pf_callTy cv_intU rfl T.z_int (by decide +kernel) (pbs_cons (pf_b (pf_cmp (ov_eqU (hu64 hr)) (pb_ix (hu1 hr) (pb_var 3) (pf_b pf_int)) (pb_ix (hu1 hr) (pb_var 3) (pf_b pf_int)) (nomark _))) pbs_nil))))) pssd_nil)
  (pssd_one (psd_ret (po_f (pb_f (pb_ix (hu1 hr) (pb_var 3) (pf_b (pf_op ov_add (pf_b pf_int) (pf_b (pf_callTy cv_intU rfl T.z_int (by decide +kernel) (pbs_cons (pf_b (pf_cmp (ov_eqU (hu64 hr)) (pb_ix (hu1 hr) (pb_var 3) (pf_b pf_int)) (pf_b pf_int) (nomark _))) pbs_nil))))))))))))))))))), hm, F.kp, F.binds fun _ _ _ _ _ _ us hl => match us, hl with | [_, _, _], _ => rfl⟩
theorem sc__law_due : FnScope ["step", "number", "top", "words", "word", "behind", "later"] ["step", "number", "top", "words", "word"] (defScope (topS 13)) := ⟨rfl, rfl, rfl, by decide +kernel, rfl, by decide +kernel, by decide +kernel⟩
theorem ok__law_due {f : Addr} {fd : FuncData} (F : Fun K "_law_due" "_law_due" (topS 13) f fd) (T : Txt K mg) (g__law_value : Cal P w K mg base 46 "_law_value" 3 (Lh.m__law_value 45)) (hm : mg "_law_due" = some (.ref f)) : Cal P w K mg base 47 "_law_due" 5 Lh.m__law_due :=
  ⟨f, fd, ["step", "number", "top", "words", "word"], fnok F sc__law_due (by decide) (fun cdv A outer s H E hr =>
  (pssd_cons (psd_set (i := 5) kpD sc__law_due.nd rfl (by first | exact Or.inl rfl | exact Or.inr rfl) (po_f (pf_callTy (cv_dictU rfl) rfl T.z_dict (by decide +kernel) (pbs_cons (pb_var 3) pbs_nil))))
  (pssd_cons (psd_set (i := 6) kpD sc__law_due.nd rfl (by first | exact Or.inl rfl | exact Or.inr rfl) (po_f (pf_op ov_add (pb_var 1) (pf_b pf_int))))
  (pssd_cons (psd_if (pt_cmpV (ov_eqU (hu64 hr)) (pb_ix (hu1 hr) (pb_var 0) (pf_b pf_int)) (pf_b pf_str) (nomark _)) (pssd_one (psd_put (hu1 hr) (pth_name 5) (pb_ix (hu1 hr) (pb_var 0) (pf_b pf_int)) (po_f (pb_f (pb_var 4))))) pssd_nil)
  (pssd_cons (psd_if (pt_cmpV (ov_eqU (hu64 hr)) (pb_ix (hu1 hr) (pb_var 0) (pf_b pf_int)) (pf_b pf_str) (nomark _)) (pssd_one (psd_put (hu1 hr) (pth_name 5) (pb_ix (hu1 hr) (pb_var 0) (pf_b pf_int)) (po_f (pf_cal g__law_value tkD hr (by first | decide | omega) rfl (pbs_cons (pb_ix (hu1 hr) (pb_var 0) (pf_b pf_int)) (pbs_cons (pb_var 2) (pbs_cons (pb_var 3) pbs_nil))) (bCons_len (bCons_len (bCons_len bNil_len))))))) pssd_nil)
  (pssd_cons (psd_if (ptb_w (pwb_and (pt_cmpV (ov_eqU (hu64 hr)) (pb_ix (hu1 hr) (pb_var 0) (pf_b pf_int)) (pf_b pf_str) (nomark _)) (pwb_and1 (pt_cmpV ov_gt (pf_b (pf_cal g__law_value tkD hr (by first | decide | omega) rfl (pbs_cons (pb_ix (hu1 hr) (pb_var 0) (pf_b pf_int)) (pbs_cons (pb_var 2) (pbs_cons (pb_var 3) pbs_nil))) (bCons_len (bCons_len (bCons_len bNil_len))))) (pf_b pf_int) (nomark _))))) (pssd_one (psd_set (i := 6) kpD sc__law_due.nd rfl (by first | exact Or.inl rfl | exact Or.inr rfl) (po_f (pb_f (pb_ix (hu1 hr) (pb_var 0) (pf_b pf_int)))))) pssd_nil)
  (pssd_one (psd_ret (po_tup (pos_cons (po_move 6) (pos_cons (po_move 5) pos_nil))))))))))), hm, F.kp, F.binds fun _ _ _ _ _ _ us hl => match us, hl with | [_, _, _, _, _], _ => rfl⟩
theorem sc_law : FnScope ["script", "naming", "width", "top", "names", "ferries", "steps", "number", "words", "name", "cell", "word", "due", "handed", "found", "odd", "k"] ["script"] (defScope (topS 14)) := ⟨rfl, rfl, rfl, by decide +kernel, rfl, by decide +kernel, by decide +kernel⟩
theorem okF_law {P : Program} {w : World} {K : PySem.W.Frag} {mg : Str → Option Value} {base : Heap} {f : Addr} {fd : FuncData} (F : Fun K "law" "law" (topS 14) f fd) (T : Txt K mg) (g__law_cell_at : Cal P w K mg base 1 "_law_cell_at" 2 Lh.m__law_cell_at) (g__law_name : Cal P w K mg base 1 "_law_name" 2 Lh.m__law_name) (g__law_steps : Cal P w K mg base 2 "_law_steps" 3 Lh.m__law_steps) (g__law_due : Cal P w K mg base 47 "_law_due" 5 Lh.m__law_due) (g_after : Cal P w K mg base 48 "after" 5 Pg.m_after) (g__law_whole : Cal P w K mg base 1 "_law_whole" 1 Lh.m__law_whole) : FnOk P w K mg base (L2.CX P w) 49 f fd ["script"] (spD ⟨K, mg⟩ 1 m_law) :=
  fnok F sc_law (by decide) (fun cdv A outer s H E hr =>
  (pssd_cons (psd_set (i := 1) kpD sc_law.nd rfl (by first | exact Or.inl rfl | exact Or.inr rfl) (po_f (pf_op ov_mod (pf_b (pf_cal g__law_cell_at tkD hr (by first | decide | omega) rfl (pbs_cons (pb_var 0) (pbs_cons (pf_b pf_int) pbs_nil)) (bCons_len (bCons_len bNil_len)))) (pf_b (pf_op ov_pow (pf_b pf_int) (pf_b pf_int))))))
  (pssd_cons (psd_set (i := 2) kpD sc_law.nd rfl (by first | exact Or.inl rfl | exact Or.inr rfl) (po_f (pf_op ov_add (pf_b pf_int) (pf_b (pf_op ov_mod (pf_b (pf_cal g__law_cell_at tkD hr (by first | decide | omega) rfl (pbs_cons (pb_var 0) (pbs_cons (pf_b pf_int) pbs_nil)) (bCons_len (bCons_len bNil_len)))) (pf_b pf_int))))))
  (pssd_cons (psd_set (i := 3) kpD sc_law.nd rfl (by first | exact Or.inl rfl | exact Or.inr rfl) (po_f (pf_op ov_shl (pf_b pf_int) (pb_var 2))))
  (pssd_cons (psd_setLcR1 (i := 4) kpD (own := [("k", 16)]) (t := (gName 16)) rfl sc_law.nd rfl rfl (sw_true rfl rfl rfl (by decide +kernel)) rfl T.z_range (pf_b (pf_op ov_add (pf_b pf_int) (pf_b (pf_op ov_mod (pf_b (pf_cal g__law_cell_at tkD hr (by first | decide | omega) rfl (pbs_cons (pb_var 0) (pbs_cons (pf_b pf_int) pbs_nil)) (bCons_len (bCons_len bNil_len)))) (pf_b pf_int))))) (blkOk_by (N := ["script", "naming", "width", "top", "names", "ferries", "steps", "number", "words", "name", "cell", "word", "due", "handed", "found", "odd", "k"]) (sc := defScope (topS 14)) (by decide +kernel)) (fun _ _ _ _ _ => (pgd_name (i := 16) sc_law.nd rfl (by first | exact Or.inl rfl | exact Or.inr rfl))) (fun _ _ _ _ _ => ptsd_nil) (fun _ _ _ _ _ => (pf_cal g__law_name tkB hr (by first | decide | omega) rfl (pbs_cons (pb_var 1) (pbs_cons (pb_var 16) pbs_nil)) (bCons_len (bCons_len bNil_len)))))
  (pssd_cons (psd_setLcR1 (i := 5) kpD (own := [("k", 16)]) (t := (gName 16)) rfl sc_law.nd rfl rfl (sw_true rfl rfl rfl (by decide +kernel)) rfl T.z_range (pf_b pf_int) (blkOk_by (N := ["script", "naming", "width", "top", "names", "ferries", "steps", "number", "words", "name", "cell", "word", "due", "handed", "found", "odd", "k"]) (sc := defScope (topS 14)) (by decide +kernel)) (fun _ _ _ _ _ => (pgd_name (i := 16) sc_law.nd rfl (by first | exact Or.inl rfl | exact Or.inr rfl))) (fun _ _ _ _ _ => ptsd_nil) (fun _ _ _ _ _ => (pf_cal g__law_name tkB hr (by first | decide | omega) rfl (pbs_cons (pb_var 1) (pbs_cons (pf_b (pf_op ov_add (pf_b pf_int) (pb_var 16))) pbs_nil)) (bCons_len (bCons_len bNil_len)))))
  (pssd_cons (psd_set (i := 6) kpD sc_law.nd rfl (by first | exact Or.inl rfl | exact Or.inr rfl) (po_f (pf_cal g__law_steps tkD hr (by first | decide | omega) rfl (pbs_cons (pf_b (pf_slice (pf_b (pf_op ov_add (pf_b (pf_slice (pb_var 0) (pp_some (pf_b pf_int)) (pp_some (pf_b pf_int)))) (pf_b (pf_lst (pfs_cons pf_int pfs_nil))))) pp_none (pp_some (pf_b (pf_op ov_add (pf_b pf_int) (pf_b (pf_op ov_mod (pf_b (pf_op ov_div (pf_b (pf_cal g__law_cell_at tkD hr (by first | decide | omega) rfl (pbs_cons (pb_var 0) (pbs_cons (pf_b pf_int) pbs_nil)) (bCons_len (bCons_len bNil_len)))) (pf_b pf_int))) (pf_b pf_int)))))))) (pbs_cons (pb_var 4) (pbs_cons (pb_var 5) pbs_nil))) (bCons_len (bCons_len (bCons_len bNil_len))))))
  (pssd_cons (psd_set (i := 7) kpD sc_law.nd rfl (by first | exact Or.inl rfl | exact Or.inr rfl) (po_f pf_int))
  (pssd_cons (psd_set (i := 8) kpD sc_law.nd rfl (by first | exact Or.inl rfl | exact Or.inr rfl) (po_f pf_dnew))
  (pssd_cons (psd_for kpD psD rfl (po_frz 4) (pgd_name (i := 9) sc_law.nd rfl (by first | exact Or.inl rfl | exact Or.inr rfl)) (pssd_one (psd_put (hu1 hr) (pth_name 8) (pb_var 9) (po_f (pf_op ov_mod (pf_b (pf_op ov_add (pf_b (pf_op ov_div (pf_b (pf_cal g__law_cell_at tkD hr (by first | decide | omega) rfl (pbs_cons (pb_var 0) (pbs_cons (pf_b pf_int) pbs_nil)) (bCons_len (bCons_len bNil_len)))) (pf_b pf_int))) (pf_b (pf_op ov_mul (pf_b pf_int) (pf_b (pf_callB cv_len rfl T.z_len PySem.boot_len (pbs_cons (pb_var 8) pbs_nil))))))) (pb_var 3))))))
  (pssd_cons (psd_for kpD psD rfl (po_f (pf_slice (pb_var 0) (pp_some (pf_b pf_int)) (pp_some (pf_b pf_int)))) (pgd_name (i := 10) sc_law.nd rfl (by first | exact Or.inl rfl | exact Or.inr rfl)) (pssd_cons (psd_if (ptb_w (pwb_or (pt_cmpV (ov_eqU (hu64 hr)) (pb_var 7) (pf_b (pf_callB cv_len rfl T.z_len PySem.boot_len (pbs_cons (pb_var 6) pbs_nil))) (nomark _)) (pwb_or1 (pt_cmpV (ov_eqU (hu64 hr)) (pf_b (pf_op ov_mod (pb_var 10) (pf_b pf_int))) (pf_b pf_int) (nomark _))))) (pssd_one (psd_set (i := 7) kpD sc_law.nd rfl (by first | exact Or.inl rfl | exact Or.inr rfl) (po_f (pf_op ov_mod (pf_b (pf_op ov_div (pb_var 10) (pf_b pf_int))) (pf_b (pf_callB cv_len rfl T.z_len PySem.boot_len (pbs_cons (pb_var 6) pbs_nil))))))) pssd_nil)
  (pssd_cons (psd_set (i := 11) kpD sc_law.nd rfl (by first | exact Or.inl rfl | exact Or.inr rfl) (po_f pf_non))
  (pssd_cons (psd_if (pt_cmpV (ov_eqU (hu64 hr)) (pb_ix (hu1 hr) (pb_ix (hu1 hr) (pb_var 6) (pb_var 7)) (pf_b pf_int)) (pf_b pf_str) (nomark _)) (pssd_one (psd_set (i := 11) kpD sc_law.nd rfl (by first | exact Or.inl rfl | exact Or.inr rfl) (po_f (pf_op ov_mod (pf_b (pf_op ov_div (pb_var 10) (pf_b pf_int))) (pb_var 3))))) pssd_nil)
  (pssd_cons (psd_set (i := 12) kpD sc_law.nd rfl (by first | exact Or.inl rfl | exact Or.inr rfl) (po_f (pf_cal g__law_due tkD hr (by first | decide | omega) rfl (pbs_cons (pb_ix (hu1 hr) (pb_var 6) (pb_var 7)) (pbs_cons (pb_var 7) (pbs_cons (pb_var 3) (pbs_cons (pb_var 8) (pbs_cons (pb_var 11) pbs_nil))))) (bCons_len (bCons_len (bCons_len (bCons_len (bCons_len bNil_len))))))))
  (pssd_cons (psd_set (i := 13) kpD sc_law.nd rfl (by first | exact Or.inl rfl | exact Or.inr rfl) (po_f (pf_callTy (cv_dictU rfl) rfl T.z_dict (by decide +kernel) (pbs_cons (pb_var 8) pbs_nil))))
  (pssd_cons (psd_set (i := 14) kpD sc_law.nd rfl (by first | exact Or.inl rfl | exact Or.inr rfl) (po_f (pf_cal g_after tkD hr (by first | decide | omega) rfl (pbs_cons (pb_var 2) (pbs_cons (pf_b (pf_callTy cv_tuple rfl T.z_tuple (by decide +kernel) (pbs_cons (pb_var 6) pbs_nil))) (pbs_cons (pb_var 7) (pbs_cons (pb_var 13) (pbs_cons (pb_var 11) pbs_nil))))) (bCons_len (bCons_len (bCons_len (bCons_len (bCons_len bNil_len))))))))
  (pssd_cons (psd_if (ptb_w (pwb_or (ptb_not (ptb_tru (pf_b (pf_isi (T := "tuple") rfl T.z_isinstance rfl T.z_tuple (by decide +kernel) (pb_var 14))))) (pwb_or (pt_cmpV (ov_neU (hu64 hr)) (pb_var 14) (pb_var 12) (nomark _)) (pwb_or1 (pt_cmpV (ov_neU (hu64 hr)) (pb_var 13) (pb_var 8) (nomark _)))))) (pssd_one (psd_ret (po_f pf_bl))) pssd_nil)
  (pssd_cons (psd_setLc (i := 15) kpD (own := [("name", 9)]) (t := (gName 9)) rfl sc_law.nd rfl rfl (sw_true rfl rfl rfl (by decide +kernel)) (pb_var 4) (blkOk_by (N := ["script", "naming", "width", "top", "names", "ferries", "steps", "number", "words", "name", "cell", "word", "due", "handed", "found", "odd", "k"]) (sc := defScope (topS 14)) (by decide +kernel)) (fun _ _ _ _ _ => (pgd_name (i := 9) sc_law.nd rfl (by first | exact Or.inl rfl | exact Or.inr rfl))) (fun _ _ _ _ _ => (ptsd_one (ptb_not (ptb_tru (pf_b (pf_cal g__law_whole tkB hr (by first | decide | omega) rfl (pbs_cons (pb_ix (hu1 hr) (pb_ix (hu1 hr) (pb_var 14) (pf_b pf_int)) (pb_var 9)) pbs_nil) (bCons_len bNil_len))))))) (fun _ _ _ _ _ => (pb_f (pb_var 9))))
  (pssd_cons (psd_if (ptb_w (pwb_or (pt_cmpV (ov_neU (hu64 hr)) (pb_var 15) (pf_b (pf_lst pfs_nil)) (nomark _)) (pwb_or1 (ptb_not (ptb_tru (pf_b (pf_cal g__law_whole tkD hr (by first | decide | omega) rfl (pbs_cons (pb_ix (hu1 hr) (pb_var 14) (pf_b pf_int)) pbs_nil) (bCons_len bNil_len)))))))) (pssd_one (psd_ret (po_f pf_bl))) pssd_nil)
  (pssd_cons (psd_clr (pth_ix (hu1 hr) (pth_name 14) (pf_b pf_int)))
  (pssd_cons (psd_if (pt_cmpV (ov_neU (hu64 hr)) (pf_b (pf_cal g_after tkD hr (by first | decide | omega) rfl (pbs_cons (pb_var 2) (pbs_cons (pf_b (pf_callTy cv_list rfl T.z_list (by decide +kernel) (pbs_cons (pb_var 6) pbs_nil))) (pbs_cons (pb_var 7) (pbs_cons (pb_var 13) (pbs_cons (pb_var 11) pbs_nil))))) (bCons_len (bCons_len (bCons_len (bCons_len (bCons_len bNil_len))))))) (pb_var 12) (nomark _)) (pssd_one (psd_ret (po_f pf_bl))) pssd_nil)
  (pssd_one (psd_asg kpD (po_move 12) (pgd_tup (n := 2) rfl (pgsd_cons (pgd_name (i := 7) sc_law.nd rfl (by first | exact Or.inl rfl | exact Or.inr rfl)) (pgsd_cons (pgd_name (i := 8) sc_law.nd rfl (by first | exact Or.inl rfl | exact Or.inr rfl)) pgsd_nil)))))))))))))))))
  (pssd_one (psd_ret (po_f pf_bl))))))))))))))
end
open PySem.W in
theorem all_mk (hlaw : ∀ ns : List Int, ns.length ≤ 63 → m_law [scriptD ns] = .ok (.bl true)) {l : PySem.W.OpenLaw} {w : World} {K : PySem.W.Frag} {h : Heap} {mg : Str → Option Value} {fa : Addr} (X : K.In h) (G : h.Ns mainGlobals mg) (hfa : mg "law" = some (.ref fa))
  {f_cut : Addr} {od_cut an_cut : Option Addr} {sl_cut : Array (Option Value)} {oc_cut kV_cut dc_cut pm_cut cd_cut ct_cut : Value}
  (a_cut : PySem.W.nsIn K mainGlobals "cut" = some (some (.ref f_cut)))
  (l_cut : K.lookup f_cut = some ⟨oc_cut, od_cut, .func (PySem.W.fnOf "cut" "cut" (defArgs (topS 1)) (defBody (topS 1)) (defScope (topS 1)) .none kV_cut dc_cut pm_cut an_cut cd_cut ct_cut), sl_cut⟩)
  (c_cut : PySem.W.codeIn K cd_cut "cut" = true)
  (k_cut : PySem.W.keepIn K (.ref f_cut) = true)
  {f_worth : Addr} {od_worth an_worth : Option Addr} {sl_worth : Array (Option Value)} {oc_worth kV_worth dc_worth pm_worth cd_worth ct_worth : Value}
  (a_worth : PySem.W.nsIn K mainGlobals "worth" = some (some (.ref f_worth)))
  (l_worth : K.lookup f_worth = some ⟨oc_worth, od_worth, .func (PySem.W.fnOf "worth" "worth" (defArgs (topS 3)) (defBody (topS 3)) (defScope (topS 3)) .none kV_worth dc_worth pm_worth an_worth cd_worth ct_worth), sl_worth⟩)
  (c_worth : PySem.W.codeIn K cd_worth "worth" = true)
  (k_worth : PySem.W.keepIn K (.ref f_worth) = true)
  {f_after : Addr} {od_after an_after : Option Addr} {sl_after : Array (Option Value)} {oc_after kV_after dc_after pm_after cd_after ct_after : Value}
  (a_after : PySem.W.nsIn K mainGlobals "after" = some (some (.ref f_after)))
  (l_after : K.lookup f_after = some ⟨oc_after, od_after, .func (PySem.W.fnOf "after" "after" (defArgs (topS 5)) (defBody (topS 5)) (defScope (topS 5)) .none kV_after dc_after pm_after an_after cd_after ct_after), sl_after⟩)
  (c_after : PySem.W.codeIn K cd_after "after" = true)
  (k_after : PySem.W.keepIn K (.ref f_after) = true)
  {f__law_cell_at : Addr} {od__law_cell_at an__law_cell_at : Option Addr} {sl__law_cell_at : Array (Option Value)} {oc__law_cell_at kV__law_cell_at dc__law_cell_at pm__law_cell_at cd__law_cell_at ct__law_cell_at : Value}
  (a__law_cell_at : PySem.W.nsIn K mainGlobals "_law_cell_at" = some (some (.ref f__law_cell_at)))
  (l__law_cell_at : K.lookup f__law_cell_at = some ⟨oc__law_cell_at, od__law_cell_at, .func (PySem.W.fnOf "_law_cell_at" "_law_cell_at" (defArgs (topS 7)) (defBody (topS 7)) (defScope (topS 7)) .none kV__law_cell_at dc__law_cell_at pm__law_cell_at an__law_cell_at cd__law_cell_at ct__law_cell_at), sl__law_cell_at⟩)
  (c__law_cell_at : PySem.W.codeIn K cd__law_cell_at "_law_cell_at" = true)
  (k__law_cell_at : PySem.W.keepIn K (.ref f__law_cell_at) = true)
  {f__law_whole : Addr} {od__law_whole an__law_whole : Option Addr} {sl__law_whole : Array (Option Value)} {oc__law_whole kV__law_whole dc__law_whole pm__law_whole cd__law_whole ct__law_whole : Value}
  (a__law_whole : PySem.W.nsIn K mainGlobals "_law_whole" = some (some (.ref f__law_whole)))
  (l__law_whole : K.lookup f__law_whole = some ⟨oc__law_whole, od__law_whole, .func (PySem.W.fnOf "_law_whole" "_law_whole" (defArgs (topS 8)) (defBody (topS 8)) (defScope (topS 8)) .none kV__law_whole dc__law_whole pm__law_whole an__law_whole cd__law_whole ct__law_whole), sl__law_whole⟩)
  (c__law_whole : PySem.W.codeIn K cd__law_whole "_law_whole" = true)
  (k__law_whole : PySem.W.keepIn K (.ref f__law_whole) = true)
  {f__law_name : Addr} {od__law_name an__law_name : Option Addr} {sl__law_name : Array (Option Value)} {oc__law_name kV__law_name dc__law_name pm__law_name cd__law_name ct__law_name : Value}
  (a__law_name : PySem.W.nsIn K mainGlobals "_law_name" = some (some (.ref f__law_name)))
  (l__law_name : K.lookup f__law_name = some ⟨oc__law_name, od__law_name, .func (PySem.W.fnOf "_law_name" "_law_name" (defArgs (topS 9)) (defBody (topS 9)) (defScope (topS 9)) .none kV__law_name dc__law_name pm__law_name an__law_name cd__law_name ct__law_name), sl__law_name⟩)
  (c__law_name : PySem.W.codeIn K cd__law_name "_law_name" = true)
  (k__law_name : PySem.W.keepIn K (.ref f__law_name) = true)
  {f__law_small : Addr} {od__law_small an__law_small : Option Addr} {sl__law_small : Array (Option Value)} {oc__law_small kV__law_small dc__law_small pm__law_small cd__law_small ct__law_small : Value}
  (a__law_small : PySem.W.nsIn K mainGlobals "_law_small" = some (some (.ref f__law_small)))
  (l__law_small : K.lookup f__law_small = some ⟨oc__law_small, od__law_small, .func (PySem.W.fnOf "_law_small" "_law_small" (defArgs (topS 10)) (defBody (topS 10)) (defScope (topS 10)) .none kV__law_small dc__law_small pm__law_small an__law_small cd__law_small ct__law_small), sl__law_small⟩)
  (c__law_small : PySem.W.codeIn K cd__law_small "_law_small" = true)
  (k__law_small : PySem.W.keepIn K (.ref f__law_small) = true)
  {f__law_steps : Addr} {od__law_steps an__law_steps : Option Addr} {sl__law_steps : Array (Option Value)} {oc__law_steps kV__law_steps dc__law_steps pm__law_steps cd__law_steps ct__law_steps : Value}
  (a__law_steps : PySem.W.nsIn K mainGlobals "_law_steps" = some (some (.ref f__law_steps)))
  (l__law_steps : K.lookup f__law_steps = some ⟨oc__law_steps, od__law_steps, .func (PySem.W.fnOf "_law_steps" "_law_steps" (defArgs (topS 11)) (defBody (topS 11)) (defScope (topS 11)) .none kV__law_steps dc__law_steps pm__law_steps an__law_steps cd__law_steps ct__law_steps), sl__law_steps⟩)
  (c__law_steps : PySem.W.codeIn K cd__law_steps "_law_steps" = true)
  (k__law_steps : PySem.W.keepIn K (.ref f__law_steps) = true)
  {f__law_value : Addr} {od__law_value an__law_value : Option Addr} {sl__law_value : Array (Option Value)} {oc__law_value kV__law_value dc__law_value pm__law_value cd__law_value ct__law_value : Value}
  (a__law_value : PySem.W.nsIn K mainGlobals "_law_value" = some (some (.ref f__law_value)))
  (l__law_value : K.lookup f__law_value = some ⟨oc__law_value, od__law_value, .func (PySem.W.fnOf "_law_value" "_law_value" (defArgs (topS 12)) (defBody (topS 12)) (defScope (topS 12)) .none kV__law_value dc__law_value pm__law_value an__law_value cd__law_value ct__law_value), sl__law_value⟩)
  (c__law_value : PySem.W.codeIn K cd__law_value "_law_value" = true)
  (k__law_value : PySem.W.keepIn K (.ref f__law_value) = true)
  {f__law_due : Addr} {od__law_due an__law_due : Option Addr} {sl__law_due : Array (Option Value)} {oc__law_due kV__law_due dc__law_due pm__law_due cd__law_due ct__law_due : Value}
  (a__law_due : PySem.W.nsIn K mainGlobals "_law_due" = some (some (.ref f__law_due)))
  (l__law_due : K.lookup f__law_due = some ⟨oc__law_due, od__law_due, .func (PySem.W.fnOf "_law_due" "_law_due" (defArgs (topS 13)) (defBody (topS 13)) (defScope (topS 13)) .none kV__law_due dc__law_due pm__law_due an__law_due cd__law_due ct__law_due), sl__law_due⟩)
  (c__law_due : PySem.W.codeIn K cd__law_due "_law_due" = true)
  (k__law_due : PySem.W.keepIn K (.ref f__law_due) = true)
  {f_law : Addr} {od_law an_law : Option Addr} {sl_law : Array (Option Value)} {oc_law kV_law dc_law pm_law cd_law ct_law : Value}
  (a_law : PySem.W.nsIn K mainGlobals "law" = some (some (.ref f_law)))
  (l_law : K.lookup f_law = some ⟨oc_law, od_law, .func (PySem.W.fnOf "law" "law" (defArgs (topS 14)) (defBody (topS 14)) (defScope (topS 14)) .none kV_law dc_law pm_law an_law cd_law ct_law), sl_law⟩)
  (c_law : PySem.W.codeIn K cd_law "law" = true)
  (k_law : PySem.W.keepIn K (.ref f_law) = true)
  (z_bool : PySem.W.nsIn K mainGlobals "bool" = some none)
  (z_dict : PySem.W.nsIn K mainGlobals "dict" = some none)
  (z_int : PySem.W.nsIn K mainGlobals "int" = some none)
  (z_isinstance : PySem.W.nsIn K mainGlobals "isinstance" = some none)
  (z_len : PySem.W.nsIn K mainGlobals "len" = some none)
  (z_list : PySem.W.nsIn K mainGlobals "list" = some none)
  (z_range : PySem.W.nsIn K mainGlobals "range" = some none)
  (z_tuple : PySem.W.nsIn K mainGlobals "tuple" = some none) :
  ∃ fd : FuncData, (∀ (s : Shared) (v : Value), BindsTo s fd ⟨[v], []⟩ [("script", v)]) ∧ ∀ base : Heap, K.In base → base.Ns mainGlobals mg → FnOk l.prog w K mg base (L2.CX l.prog w) 49 fa fd ["script"] (lawSp K) := by
  have e := hfa.symm.trans (PySem.W.mg_of X G a_law)
  cases e
  have T : Txt K mg := ⟨PySem.W.mg_none_of X G z_bool, PySem.W.mg_none_of X G z_dict, PySem.W.mg_none_of X G z_int, PySem.W.mg_none_of X G z_isinstance, PySem.W.mg_none_of X G z_len, PySem.W.mg_none_of X G z_list, PySem.W.mg_none_of X G z_range, PySem.W.mg_none_of X G z_tuple, True.intro⟩
  refine ⟨PySem.W.fnOf "law" "law" (defArgs (topS 14)) (defBody (topS 14)) (defScope (topS 14)) .none kV_law dc_law pm_law an_law cd_law ct_law, fun s v => .of_eq rfl, fun base _ _ => ?_⟩
  have g_cut : Cal l.prog w K mg base 1 "cut" 2 Pg.m_cut := ok_cut (fun_mk (st := topS 1) l_cut c_cut k_cut) T  (PySem.W.mg_of X G a_cut)
  have g_worth : Cal l.prog w K mg base 47 "worth" 3 (Pg.m_worth 45) := by
    have z := ok_worth (P := l.prog) (w := w) (base := base) (fun_mk (st := topS 3) l_worth c_worth k_worth) T g_cut (PySem.W.mg_of X G a_worth) 45
    have e : 45 + 1 ≤ 47 := by decide
    obtain ⟨f, fd, ps, F, q⟩ := z
    exact ⟨f, fd, ps, F.mono e, q⟩
  have g_after : Cal l.prog w K mg base 48 "after" 5 Pg.m_after := ok_after (fun_mk (st := topS 5) l_after c_after k_after) T g_worth (PySem.W.mg_of X G a_after)
  have g__law_cell_at : Cal l.prog w K mg base 1 "_law_cell_at" 2 Lh.m__law_cell_at := ok__law_cell_at (fun_mk (st := topS 7) l__law_cell_at c__law_cell_at k__law_cell_at) T  (PySem.W.mg_of X G a__law_cell_at)
  have g__law_whole : Cal l.prog w K mg base 1 "_law_whole" 1 Lh.m__law_whole := ok__law_whole (fun_mk (st := topS 8) l__law_whole c__law_whole k__law_whole) T  (PySem.W.mg_of X G a__law_whole)
  have g__law_name : Cal l.prog w K mg base 1 "_law_name" 2 Lh.m__law_name := ok__law_name (fun_mk (st := topS 9) l__law_name c__law_name k__law_name) T  (PySem.W.mg_of X G a__law_name)
  have g__law_small : Cal l.prog w K mg base 1 "_law_small" 2 Lh.m__law_small := ok__law_small (fun_mk (st := topS 10) l__law_small c__law_small k__law_small) T  (PySem.W.mg_of X G a__law_small)
  have g__law_steps : Cal l.prog w K mg base 2 "_law_steps" 3 Lh.m__law_steps := ok__law_steps (fun_mk (st := topS 11) l__law_steps c__law_steps k__law_steps) T g__law_small (PySem.W.mg_of X G a__law_steps)
  have g__law_value : Cal l.prog w K mg base 46 "_law_value" 3 (Lh.m__law_value 45) := by
    have z := ok__law_value (P := l.prog) (w := w) (base := base) (fun_mk (st := topS 12) l__law_value c__law_value k__law_value) T  (PySem.W.mg_of X G a__law_value) 45
    have e : 45 + 0 ≤ 46 := by decide
    obtain ⟨f, fd, ps, F, q⟩ := z
    exact ⟨f, fd, ps, F.mono e, q⟩
  have g__law_due : Cal l.prog w K mg base 47 "_law_due" 5 Lh.m__law_due := ok__law_due (fun_mk (st := topS 13) l__law_due c__law_due k__law_due) T g__law_value (PySem.W.mg_of X G a__law_due)
  exact (okF_law (fun_mk (st := topS 14) l_law c_law k_law) T g__law_cell_at g__law_name g__law_steps g__law_due g_after g__law_whole).imp fun vs H Q E h => lawSp_of hlaw h
end Gk15
/-! # VS: the combinators read by simp -/
namespace VL
open PySem PySem.Spec PyProof.Rows L2
/-! ### results -/
@[simp] theorem Rb.bind_ite {α β : Type} (c : Prop) [Decidable c] (x y : Rb α) (k : α → Rb β) : (if c then x else y).bind k = if c then x.bind k else y.bind k := by split <;> rfl
theorem Rb.ok_inj {α : Type} {a b : α} : (Rb.ok a = Rb.ok b) = (a = b) := by simp
/-- a statement's end, then the next -/
def Out.seq (o : Out) (g : Fs) : Out := match o with
  | .nx s => g s
  | o => o
@[simp] theorem Out.seq_nx (s : Slots) (g : Fs) : (Out.nx s).seq g = g s := id rfl
@[simp] theorem Out.seq_ret (d : D) (s : Slots) (g : Fs) : (Out.ret d s).seq g = .ret d s := id rfl
@[simp] theorem Out.seq_brk (s : Slots) (g : Fs) : (Out.brk s).seq g = .brk s := id rfl
@[simp] theorem Out.seq_ct (s : Slots) (g : Fs) : (Out.ct s).seq g = .ct s := id rfl
@[simp] theorem Out.seq_err (c : Str) (s : Slots) (g : Fs) : (Out.err c s).seq g = .err c s := id rfl
@[simp] theorem Out.seq_stuck (g : Fs) : Out.stuck.seq g = .stuck := id rfl
@[simp] theorem Out.seq_ite (c : Prop) [Decidable c] (x y : Out) (g : Fs) : (if c then x else y).seq g = if c then x.seq g else y.seq g := by split <;> rfl
@[simp] theorem sSeq_eq (f g : Fs) (s : Slots) : sSeq f g s = (f s).seq g := id rfl
@[simp] theorem sNext_eq (s : Slots) : sNext s = .nx s := id rfl
@[simp] theorem sCont_eq (s : Slots) : sCont s = .ct s := id rfl
@[simp] theorem sBrk_eq (s : Slots) : sBrk s = .brk s := id rfl
@[simp] theorem sRetN_eq (s : Slots) : sRetN s = .ret .non s := id rfl
@[simp] theorem sRaise_eq (c : Str) (s : Slots) : sRaise c s = .err c s := id rfl
/-- a value, then what is done with it -/
def Rb.out (x : Rb D) (s : Slots) (k : D → Slots → Out) : Out := match x with
  | .ok d => k d s
  | .err c => .err c s
  | .stuck => .stuck
@[simp] theorem Rb.out_ok (d : D) (s : Slots) (k : D → Slots → Out) : (Rb.ok d).out s k = k d s := id rfl
@[simp] theorem Rb.out_err (c : Str) (s : Slots) (k : D → Slots → Out) : (Rb.err c).out s k = .err c s := id rfl
@[simp] theorem Rb.out_stuck (s : Slots) (k : D → Slots → Out) : (Rb.stuck).out s k = .stuck := id rfl
@[simp] theorem Rb.out_ite (c : Prop) [Decidable c] (x y : Rb D) (s : Slots) (k : D → Slots → Out) : (if c then x else y).out s k = if c then x.out s k else y.out s k := by split <;> rfl
@[simp] theorem sO_oF (f : Fb) (k : D → Slots → Out) (s : Slots) : sO (oF f) k s = (f s).out s k := by
  unfold sO oF Rb.out
  cases f s <;> rfl
@[simp] theorem sSet_oF (i : Nat) (f : Fb) (s : Slots) : sSet i (oF f) s = (f s).out s fun d s => .nx (s.set i (some d)) := sO_oF _ _ _
@[simp] theorem sRet_oF (f : Fb) (s : Slots) : sRet (oF f) s = (f s).out s fun d s => .ret d s := sO_oF _ _ _
@[simp] theorem sExpr_oF (f : Fb) (s : Slots) : sExpr (oF f) s = (f s).out s fun _ s => .nx s := sO_oF _ _ _
/-- an option put to use -/
def optOut (o : Option Slots) : Out := match o with
  | some s => .nx s
  | none => .stuck
@[simp] theorem optOut_some (s : Slots) : optOut (some s) = .nx s := id rfl
@[simp] theorem sTgt_oF (g : Fg) (f : Fb) (s : Slots) : sTgt g (oF f) s = (f s).out s fun d s => optOut (g d s) := by
  have e := sO_oF f (fun d s => optOut (g d s)) s
  rw [← e]; rfl
@[simp] theorem sTgt_o (g : Fg) (f : Fo) (s : Slots) : sTgt g f s = sO f (fun d s => optOut (g d s)) s := id rfl
def moveOut (s : Slots) (i : Nat) (k : D → Slots → Out) : Out := match s[i]? with
  | some (some d) => k d (s.set i none)
  | _ => .stuck
def frzOut (s : Slots) (i : Nat) (k : D → Slots → Out) : Out := match s[i]? with
  | some (some d) => k (frz d) (s.set i (some (frz d)))
  | _ => .stuck
@[simp] theorem sO_move (i : Nat) (k : D → Slots → Out) (s : Slots) : sO (oMove i) k s = moveOut s i k := by
  unfold sO oMove moveOut
  cases s[i]? with
  | none => rfl
  | some o => cases o <;> rfl
@[simp] theorem sO_frz (i : Nat) (k : D → Slots → Out) (s : Slots) : sO (oFrz i) k s = frzOut s i k := by
  unfold sO oFrz frzOut
  cases s[i]? with
  | none => rfl
  | some o => cases o <;> rfl
theorem moveOut_eq {s : Slots} {i : Nat} {k : D → Slots → Out} {d : D} (h : s[i]? = some (some d)) : moveOut s i k = k d (s.set i none) := by unfold moveOut; rw [h]
theorem frzOut_eq {s : Slots} {i : Nat} {k : D → Slots → Out} {d : D} (h : s[i]? = some (some d)) : frzOut s i k = k (frz d) (s.set i (some (frz d))) := by unfold frzOut; rw [h]
@[simp] theorem moveOut_0 (d : D) (s : Slots) (k : D → Slots → Out) : moveOut (some d :: s) 0 k = k d (none :: s) := id rfl
@[simp] theorem frzOut_0 (d : D) (s : Slots) (k : D → Slots → Out) : frzOut (some d :: s) 0 k = k (frz d) (some (frz d) :: s) := id rfl
@[simp] theorem sRet_move (i : Nat) (s : Slots) : sRet (oMove i) s = moveOut s i fun d s => .ret d s := sO_move _ _ _
@[simp] theorem sSet_move (i j : Nat) (s : Slots) : sSet j (oMove i) s = moveOut s i fun d s => .nx (s.set j (some d)) := sO_move _ _ _
/-- a test -/
def Rb.test (x : Rb Bool) (s : Slots) (a b : Fs) : Out := match x with
  | .ok c => if c = true then a s else b s
  | .err e => .err e s
  | .stuck => .stuck
@[simp] theorem Rb.test_ok (c : Bool) (s : Slots) (a b : Fs) : (Rb.ok c).test s a b = if c = true then a s else b s := id rfl
@[simp] theorem Rb.test_err (c : Str) (s : Slots) (a b : Fs) : (Rb.err c).test s a b = .err c s := id rfl
@[simp] theorem Rb.test_stuck (s : Slots) (a b : Fs) : (Rb.stuck).test s a b = .stuck := id rfl
@[simp] theorem sIf_eq (c : Ft) (f g : Fs) (s : Slots) : sIf c f g s = (c s).test s f g := id rfl
/-! ### expressions -/
@[simp] theorem bC_eq (d : D) (s : Slots) : bC d s = .ok d := id rfl
theorem bVar_eq {i : Nat} {s : Slots} {d : D} (h : s[i]? = some (some d)) : bVar i s = .ok d := by unfold bVar; rw [h]
@[simp] theorem bVar_0 (d : D) (s : Slots) : bVar 0 (some d :: s) = .ok d := id rfl
@[simp] theorem bVar_s (i : Nat) (o : Option D) (s : Slots) : bVar (i + 1) (o :: s) = bVar i s := by
  unfold bVar
  rw [List.getElem?_cons_succ]
@[simp] theorem moveOut_s (i : Nat) (o : Option D) (s : Slots) (k : D → Slots → Out) : moveOut (o :: s) (i + 1) k = moveOut s i fun d s => k d (o :: s) := by
  unfold moveOut
  rw [List.getElem?_cons_succ]
  rfl
@[simp] theorem frzOut_s (i : Nat) (o : Option D) (s : Slots) (k : D → Slots → Out) : frzOut (o :: s) (i + 1) k = frzOut s i fun d s => k d (o :: s) := by
  unfold frzOut
  rw [List.getElem?_cons_succ]
  rfl
@[simp] theorem bBin_eq (g : D → D → Option D) (f1 f2 : Fb) (s : Slots) : bBin g f1 f2 s = (f1 s).bind fun d1 => (f2 s).bind fun d2 => Rb.of (g d1 d2) := id rfl
@[simp] theorem bUn_eq (g : D → Option D) (f : Fb) (s : Slots) : bUn g f s = (f s).bind fun d => Rb.of (g d) := id rfl
@[simp] theorem bCB_eq (g : List D → Option D) (f : Slots → Rb (List D)) (s : Slots) : bCB g f s = (f s).bind fun d => Rb.of (g d) := id rfl
@[simp] theorem bCall_eq (m : List D → Rb D) (f : Slots → Rb (List D)) (s : Slots) : bCall m f s = (f s).bind fun ds => m (frzL ds) := id rfl
@[simp] theorem bNil_eq (s : Slots) : bNil s = .ok [] := id rfl
@[simp] theorem bCons_eq (f : Fb) (g : Slots → Rb (List D)) (s : Slots) : bCons f g s = (f s).bind fun d => (g s).bind fun ds => .ok (d :: ds) := id rfl
@[simp] theorem bLst_eq (g : Slots → Rb (List D)) (s : Slots) : bLst g s = (g s).bind fun ds => if ds.length ≤ sizeLine then .ok (.lst true ds) else .stuck := id rfl
@[simp] theorem bTup_eq (g : Slots → Rb (List D)) (s : Slots) : bTup g s = (g s).bind fun ds => if ds.length ≤ sizeLine then .ok (.tup ds) else .stuck := id rfl
@[simp] theorem bSl_eq (f : Fb) (lo hi : Fp) (s : Slots) : bSl f lo hi s = (f s).bind fun d => (lo s).bind fun l => (hi s).bind fun u => Rb.of (gSl d l u) := id rfl
@[simp] theorem bNoPart_eq (s : Slots) : bNoPart s = .ok none := id rfl
def partD : D → Rb (Option Int)
  | .int i => .ok (some i)
  | _ => .stuck
@[simp] theorem partD_int (i : Int) : partD (.int i) = .ok (some i) := id rfl
@[simp] theorem bPart_eq (f : Fb) (s : Slots) : bPart f s = (f s).bind partD := by
  unfold bPart partD
  rfl
@[simp] theorem fShr_eq (f : Fb) (s : Slots) : fShr f s = (f s).bind fun d => if shr d = true then .ok d else .stuck := id rfl
@[simp] theorem tsB_eq (f : Fb) (s : Slots) : tsB f s = (f s).bind asB := id rfl
@[simp] theorem asB_bl (b : Bool) : asB (.bl b) = .ok b := id rfl
@[simp] theorem tsTru_eq (f : Fb) (s : Slots) : tsTru f s = (f s).bind fun d => Rb.of (truD d) := id rfl
@[simp] theorem truD_bl (b : Bool) : truD (.bl b) = some b := id rfl
@[simp] theorem truD_non : truD .non = some false := id rfl
@[simp] theorem fAnd_eq (f g : Ft) (s : Slots) : fAnd f g s = (f s).bind fun b => if b = true then g s else .ok false := id rfl
@[simp] theorem fOr_eq (f g : Ft) (s : Slots) : fOr f g s = (f s).bind fun b => if b = true then .ok true else g s := id rfl
@[simp] theorem fNot_eq (f : Ft) (s : Slots) : fNot f s = (f s).bind fun b => .ok (!b) := id rfl
def andD (x : D) (y : Rb D) : Rb D := match x with
  | .bl true => y
  | .bl false => .ok (.bl false)
  | _ => .stuck
def orD (x : D) (y : Rb D) : Rb D := match x with
  | .bl false => y
  | .bl true => .ok (.bl true)
  | _ => .stuck
def notD (x : D) : Rb D := match x with
  | .bl b => .ok (.bl (!b))
  | _ => .stuck
@[simp] theorem andD_ok (b : Bool) (c : Bool) : andD (.bl b) (.ok (.bl c)) = .ok (.bl (b && c)) := by cases b <;> rfl
@[simp] theorem orD_ok (b : Bool) (c : Bool) : orD (.bl b) (.ok (.bl c)) = .ok (.bl (b || c)) := by cases b <;> rfl
@[simp] theorem notD_ok (b : Bool) : notD (.bl b) = .ok (.bl (!b)) := id rfl
@[simp] theorem bAnd_eq (f g : Fb) (s : Slots) : bAnd f g s = (f s).bind fun d => andD d (g s) := id rfl
@[simp] theorem bOr_eq (f g : Fb) (s : Slots) : bOr f g s = (f s).bind fun d => orD d (g s) := id rfl
@[simp] theorem bNot_eq (f : Fb) (s : Slots) : bNot f s = (f s).bind notD := id rfl
/-! chains of ints -/
theorem chain_int {g g' : D → D → Option D} {f1 f2 f3 : Fb} {s : Slots} {a b c : Int} {p q : Bool} (h1 : f1 s = .ok (.int a)) (h2 : f2 s = .ok (.int b)) (h3 : f3 s = .ok (.int c)) (e1 : g (.int a) (.int b) = some (.bl p)) (e2 : g' (.int b) (.int c) = some (.bl q)) :
    bChain g g' f1 f2 f3 s = .ok (.bl (p && q)) := by
  unfold bChain
  rw [h1, h2]
  simp only [Rb.bind_ok, e1, Rb.of_some]
  cases p with
  | true => simp only [h3, Rb.bind_ok, e2, Rb.of_some, Bool.true_and]
  | false => rfl
/-! operators at ints -/
@[simp] theorem gAdd_i (i j : Int) : gAddU (.int i) (.int j) = some (.int (i + j)) := id rfl
@[simp] theorem gSub_i (i j : Int) : gSub (.int i) (.int j) = some (.int (i - j)) := id rfl
@[simp] theorem gXor_i (i j : Int) : gXor (.int i) (.int j) = some (.int (Builtin.bitXor i j)) := id rfl
@[simp] theorem gAnd_i (i j : Int) : gAnd (.int i) (.int j) = some (.int (Builtin.bitAnd i j)) := id rfl
@[simp] theorem gOr_i (i j : Int) : gOr (.int i) (.int j) = some (.int (Builtin.bitOr i j)) := id rfl
@[simp] theorem gLt_i (i j : Int) : gLt (.int i) (.int j) = some (.bl (decide (i < j))) := id rfl
@[simp] theorem gLe_i (i j : Int) : gLe (.int i) (.int j) = some (.bl (decide (i ≤ j))) := id rfl
@[simp] theorem gGt_i (i j : Int) : gGt (.int i) (.int j) = some (.bl (decide (j < i))) := id rfl
@[simp] theorem gGe_i (i j : Int) : gGe (.int i) (.int j) = some (.bl (decide (j ≤ i))) := id rfl
@[simp] theorem gNeg_i (i : Int) : gNeg (.int i) = some (.int (-i)) := id rfl
theorem gMul_i {i j : Int} (h : i.natAbs.log2 + j.natAbs.log2 < 1000000) : gMulU (.int i) (.int j) = some (.int (i * j)) := by
  show gMul _ _ = _
  unfold gMul iOp
  simp [h]
theorem gMod_i {i j : Int} (h : 0 < j) : gMod (.int i) (.int j) = some (.int (i % j)) := by
  unfold gMod iOp
  simp [h]
theorem gDiv_i {i j : Int} (h : 0 < j) (h2 : j.natAbs.log2 < 9000) : gDiv (.int i) (.int j) = some (.int (i / j)) := by
  unfold gDiv iOp
  simp [h, h2]
theorem gPow_i {i j : Int} (h : 0 ≤ j) (h2 : j ≤ 1000000) (h3 : i.natAbs < 2 ^ 64) : gPow (.int i) (.int j) = some (.int (i ^ j.toNat)) := by
  unfold gPow iOp
  simp [h, h2, h3]
theorem gShl_i {i j : Int} (h : 0 ≤ j) (h2 : j ≤ 1000000) (h3 : i.natAbs < 2 ^ 64) : gShl (.int i) (.int j) = some (.int (i * 2 ^ j.toNat)) := by
  unfold gShl iOp
  simp [h, h2, h3]
theorem gShr_i {i j : Int} (h : 0 ≤ j) : gShr (.int i) (.int j) = some (.int (i / 2 ^ j.toNat)) := by
  unfold gShr iOp
  simp [h]
/-! equality -/
@[simp] theorem eqD_int (i j : Int) : eqD (.int i) (.int j) = some (decide (i = j)) := by
  have z : eqD (.int i) (.int j) = if (SeqAt.shaped (.int i) && SeqAt.shaped (.int j)) = true then some (PyData.eqv (.int i) (.int j)) else none := rfl
  rw [z]
  rw [if_pos (show (SeqAt.shaped (.int i) && SeqAt.shaped (.int j)) = true from rfl)]
  simp only [PyData.eqv]
  by_cases h : i = j <;> simp [h]
@[simp] theorem eqD_bl (i j : Bool) : eqD (.bl i) (.bl j) = some (decide (i = j)) := by
  have z : eqD (.bl i) (.bl j) = if (SeqAt.shaped (.bool i) && SeqAt.shaped (.bool j)) = true then some (PyData.eqv (.bool i) (.bool j)) else none := rfl
  rw [z]
  rw [if_pos (show (SeqAt.shaped (.bool i) && SeqAt.shaped (.bool j)) = true from rfl)]
  cases i <;> cases j <;> rfl
@[simp] theorem gEq_eq (a b : D) : gEq a b = (eqD a b).map .bl := id rfl
@[simp] theorem gNe_eq (a b : D) : gNe a b = (eqD a b).map fun b => .bl (!b) := id rfl
/-! is -/
@[simp] theorem gIs_non (d : D) : gIs d .non = some (.bl (isN d)) := by cases d <;> rfl
@[simp] theorem gIsNot_non (d : D) : gIsNot d .non = some (.bl (!isN d)) := by cases d <;> rfl
@[simp] theorem gIs_bl (a b : Bool) : gIs (.bl a) (.bl b) = some (.bl (decide (a = b))) := id rfl
@[simp] theorem gIsNot_bl (a b : Bool) : gIsNot (.bl a) (.bl b) = some (.bl (!decide (a = b))) := id rfl
@[simp] theorem isN_non : isN .non = true := id rfl
@[simp] theorem isN_int (i : Int) : isN (.int i) = false := id rfl
@[simp] theorem isN_bl (i : Bool) : isN (.bl i) = false := id rfl
@[simp] theorem isN_str (i : Str) : isN (.str i) = false := id rfl
@[simp] theorem isN_nd (k : Kd) (m : Bool) (ds : List D) : isN (.nd k m ds) = false := id rfl
/-! frozen, shared, own -/
@[simp] theorem frz_non : frz .non = .non := id rfl
@[simp] theorem frz_bl (b : Bool) : frz (.bl b) = .bl b := id rfl
@[simp] theorem frz_int (b : Int) : frz (.int b) = .int b := id rfl
@[simp] theorem frz_str (b : Str) : frz (.str b) = .str b := id rfl
@[simp] theorem frz_nd (k : Kd) (m : Bool) (ds : List D) : frz (.nd k m ds) = .nd k false (frzL ds) := by rw [frz]
@[simp] theorem frzL_nil : frzL [] = [] := id rfl
@[simp] theorem frzL_cons (d : D) (ds : List D) : frzL (d :: ds) = frz d :: frzL ds := by rw [frzL]
theorem frzL_map (ds : List D) : frzL ds = ds.map frz := by
  induction ds with
  | nil => rfl
  | cons d ds ih => rw [frzL_cons, ih]; rfl
@[simp] theorem frzL_ints (ns : List Int) : frzL (ns.map D.int) = ns.map D.int := by
  rw [frzL_map, List.map_map]; rfl
@[simp] theorem shr_non : shr .non = true := id rfl
@[simp] theorem shr_bl (b : Bool) : shr (.bl b) = true := id rfl
@[simp] theorem shr_int (b : Int) : shr (.int b) = true := id rfl
@[simp] theorem shr_str (b : Str) : shr (.str b) = true := id rfl
@[simp] theorem shr_tup (m : Bool) (ds : List D) : shr (.nd .tup m ds) = shrL ds := by rw [shr]
@[simp] theorem shr_lst (m : Bool) (ds : List D) : shr (.nd .lst m ds) = (!m && shrL ds) := by rw [shr]; intro h; cases h
@[simp] theorem shrL_nil : shrL [] = true := id rfl
@[simp] theorem shrL_cons (d : D) (ds : List D) : shrL (d :: ds) = (shr d && shrL ds) := by rw [shrL]
@[simp] theorem shrL_ints (ns : List Int) : shrL (ns.map D.int) = true := shrL_of fun d hd => by
  obtain ⟨i, _, rfl⟩ := List.mem_map.mp hd
  rfl
@[simp] theorem own_non : own .non = true := id rfl
@[simp] theorem own_bl (b : Bool) : own (.bl b) = true := id rfl
@[simp] theorem own_int (b : Int) : own (.int b) = true := id rfl
@[simp] theorem own_str (b : Str) : own (.str b) = true := id rfl
@[simp] theorem own_tup (m : Bool) (ds : List D) : own (.nd .tup m ds) = ownL ds := by rw [own]
@[simp] theorem own_lst (m : Bool) (ds : List D) : own (.nd .lst m ds) = (m && ownL ds) := by rw [own]; intro h; cases h
@[simp] theorem ownL_nil : ownL [] = true := id rfl
@[simp] theorem ownL_cons (d : D) (ds : List D) : ownL (d :: ds) = (own d && ownL ds) := by rw [ownL]
theorem ownL_of : ∀ {ds : List D}, (∀ d ∈ ds, own d = true) → ownL ds = true
  | [], _ => rfl
  | e :: ds, h => by
    rw [ownL_cons, h e (by simp), ownL_of fun d hd => h d (List.mem_cons_of_mem _ hd)]; rfl
@[simp] theorem ownL_ints (ns : List Int) : ownL (ns.map D.int) = true := ownL_of fun d hd => by
  obtain ⟨i, _, rfl⟩ := List.mem_map.mp hd
  rfl
/-! defs -/
def Out.val (o : Out) : Rb D := match o with
  | .nx _ => .ok .non
  | .ret d _ => if own d = true then .ok d else .stuck
  | .err c _ => .err c
  | _ => .stuck
@[simp] theorem Out.val_nx (s : Slots) : (Out.nx s).val = .ok .non := id rfl
@[simp] theorem Out.val_ret (d : D) (s : Slots) : (Out.ret d s).val = if own d = true then .ok d else .stuck := id rfl
@[simp] theorem Out.val_err (c : Str) (s : Slots) : (Out.err c s).val = .err c := id rfl
@[simp] theorem Out.val_stuck : Out.stuck.val = .stuck := id rfl
@[simp] theorem Out.val_ite (c : Prop) [Decidable c] (x y : Out) : (if c then x else y).val = if c then x.val else y.val := by split <;> rfl
theorem fnD_eq (N : Nat) (g : Fs) (ds : List D) : fnD N g ds = (g (ds.map some ++ List.replicate (N - ds.length) none)).val := rfl
/-! ### loops by an invariant -/
theorem forL_inv {g : Fg} {body : Fs} {ds : List D} (P : Nat → Slots → Prop) (step : ∀ i (hi : i < ds.length) s, P i s → ∃ s1 s2, g ds[i] s = some s1 ∧ (body s1 = .nx s2 ∨ body s1 = .ct s2) ∧ P (i + 1) s2) {s : Slots} (h0 : P 0 s) :
    ∃ s', forL g body ds s = .nx s' ∧ P ds.length s' := by
  have key : ∀ (n : Nat) (es : List D) (s : Slots), n + es.length = ds.length → es = ds.drop n → P n s → ∃ s', forL g body es s = .nx s' ∧ P ds.length s' := by
    intro n es
    induction es generalizing n with
    | nil =>
      intro s hl _ hp
      have e : n = ds.length := by simpa using hl
      subst e
      exact ⟨s, rfl, hp⟩
    | cons e es ih =>
      intro s hl he hp
      have hn : n < ds.length := by rw [List.length_cons] at hl; omega
      have hd := List.drop_eq_getElem_cons hn
      rw [← he] at hd
      obtain ⟨h1, h2⟩ := List.cons.inj hd
      obtain ⟨s1, s2, q1, q2, q3⟩ := step n hn s hp
      obtain ⟨s', r1, r2⟩ := ih (n + 1) s2 (by rw [List.length_cons] at hl; omega) h2 q3
      refine ⟨s', ?_, r2⟩
      rw [forL, h1, q1]
      rcases q2 with q2 | q2 <;> simp only [q2] <;> exact r1
  exact key 0 ds s (by simp) rfl h0
theorem rgD_length (lo : Int) (n : Nat) : (rgD lo n).length = n := by unfold rgD; simp
theorem rgD_at (lo : Int) (n i : Nat) (h : i < (rgD lo n).length) : (rgD lo n)[i] = .int (lo + (i : Nat)) := by
  have z := rgD_get (List.getElem?_eq_getElem h)
  exact z.2
/-- for k in range(n) by an invariant -/
theorem forR_inv {g : Fg} {body : Fs} {lo : Int} {n : Nat} (P : Nat → Slots → Prop) (step : ∀ i, i < n → ∀ s, P i s → ∃ s1 s2, g (.int (lo + (i : Nat))) s = some s1 ∧ (body s1 = .nx s2 ∨ body s1 = .ct s2) ∧ P (i + 1) s2) {s : Slots} (h0 : P 0 s) :
    ∃ s', forL g body (rgD lo n) s = .nx s' ∧ P n s' := by
  have z := forL_inv (g := g) (body := body) (ds := rgD lo n) P (fun i hi s hp => by
    rw [rgD_at]
    exact step i (by rwa [rgD_length] at hi) s hp) h0
  rwa [rgD_length] at z
theorem sForR1_eq {f : Fb} {g : Fg} {body : Fs} {s : Slots} {j : Int} (h : f s = .ok (.int j)) (h1 : -(2 ^ 62) ≤ j) (h2 : j < 2 ^ 62) : sForR1 f g body s = forL g body (rgD 0 j.toNat) s := by
  unfold sForR1
  have : rgB 0 j = true := decide_eq_true ⟨by decide, by decide, h1, h2⟩
  rw [h]
  exact if_pos this
theorem sForR2_eq {f f' : Fb} {g : Fg} {body : Fs} {s : Slots} {i j : Int} (h : f s = .ok (.int i)) (h' : f' s = .ok (.int j)) (h1 : -(2 ^ 62) ≤ i ∧ i < 2 ^ 62) (h2 : -(2 ^ 62) ≤ j ∧ j < 2 ^ 62) : sForR2 f f' g body s = forL g body (rgD i (j - i).toNat) s := by
  unfold sForR2
  have : rgB i j = true := decide_eq_true ⟨h1.1, h1.2, h2.1, h2.2⟩
  rw [h, h']
  exact if_pos this
theorem sFor_oF {f : Fb} {g : Fg} {body : Fs} {s : Slots} {d : D} {ds : List D} (h : f s = .ok d) (e : itemsD (frz d) = some ds) : sFor (oF f) g body s = forL g body ds s := by
  unfold sFor
  rw [sO_oF, h]
  rw [Rb.out_ok, e]
mutual
theorem frz_frz : ∀ d : D, frz (frz d) = frz d
  | .non => rfl
  | .bl _ => rfl
  | .int _ => rfl
  | .str _ => rfl
  | .nd k m ds => by rw [frz_nd, frz_nd, frzL_frzL ds]
theorem frzL_frzL : ∀ ds : List D, frzL (frzL ds) = frzL ds
  | [] => rfl
  | d :: ds => by rw [frzL_cons, frzL_cons, frz_frz d, frzL_frzL ds]
end
theorem sFor_frz {i : Nat} {g : Fg} {body : Fs} {s : Slots} {d : D} {ds : List D} (h : s[i]? = some (some d)) (e : itemsD (frz d) = some ds) : sFor (oFrz i) g body s = forL g body ds (s.set i (some (frz d))) := by
  unfold sFor
  rw [sO_frz, frzOut_eq h, frz_frz, e]
@[simp] theorem gtName_eq (i : Nat) (d : D) (s : Slots) : gtName i d s = some (s.set i (some d)) := id rfl
@[simp] theorem gtNil_eq (s : Slots) : gtNil [] s = some s := id rfl
@[simp] theorem gtCons_eq (g : Fg) (h : List D → Slots → Option Slots) (d : D) (ds : List D) (s : Slots) : gtCons g h (d :: ds) s = (g d s).bind (h ds) := id rfl
@[simp] theorem gtTup_eq (n : Nat) (g : List D → Slots → Option Slots) (m : Bool) (ds : List D) (s : Slots) : gtTup n g (.nd .tup m ds) s = if ds.length = n then g ds s else none := id rfl
end VL
/-! # VS2: equality of plain data, slices, items -/
namespace VL
open PySem PySem.Spec PyProof.Rows L2
noncomputable instance decD : DecidableEq D := fun a b => Classical.propDecidable (a = b)
mutual
/-- data with no bool, no dict, no instance -/
def nb : D → Bool
  | .non => true
  | .int _ => true
  | .str x => PyData.strOk x
  | .bl _ => false
  | .nd .tup _ ds => nbL ds
  | .nd .lst _ ds => nbL ds
  | .nd _ _ _ => false
def nbL : List D → Bool
  | [] => true
  | d :: ds => nb d && nbL ds
end
mutual
def dep : D → Nat
  | .nd _ _ ds => depL ds + 1
  | _ => 0
def depL : List D → Nat
  | [] => 0
  | d :: ds => max (dep d) (depL ds)
end
mutual
theorem nb_py : ∀ d : D, nb d = true → ∃ p, toPy d = some p ∧ PyData.canLay0 p = true ∧ PyData.depth p = dep d
  | .non, _ => ⟨.none, rfl, rfl, rfl⟩
  | .int i, _ => ⟨.int i, rfl, rfl, rfl⟩
  | .str x, h => ⟨.str x, rfl, h, rfl⟩
  | .bl _, h => by simp [nb] at h
  | .nd .tup m ds, h => by
    obtain ⟨ps, e, c, z⟩ := nbL_py ds (by simpa [nb] using h)
    exact ⟨.tuple ps, by simp [toPy, e], by simpa [PyData.canLay0] using c, by simp [PyData.depth, dep, z]⟩
  | .nd .lst m ds, h => by
    obtain ⟨ps, e, c, z⟩ := nbL_py ds (by simpa [nb] using h)
    exact ⟨.list ps, by simp [toPy, e], by simpa [PyData.canLay0] using c, by simp [PyData.depth, dep, z]⟩
  | .nd (.dct _) _ _, h => by simp [nb] at h
  | .nd (.ins _ _) _ _, h => by simp [nb] at h
theorem nbL_py : ∀ ds : List D, nbL ds = true → ∃ ps, toPyL ds = some ps ∧ PyData.canLayAll0 ps = true ∧ PyData.depthAll ps = depL ds
  | [], _ => ⟨[], rfl, rfl, rfl⟩
  | d :: ds, h => by
    simp only [nbL, Bool.and_eq_true] at h
    obtain ⟨p, e1, c1, z1⟩ := nb_py d h.1
    obtain ⟨ps, e2, c2, z2⟩ := nbL_py ds h.2
    exact ⟨p :: ps, by simp [toPyL, e1, e2], by simp [PyData.canLayAll0, c1, c2], by simp [PyData.depthAll, depL, z1, z2]⟩
end
theorem toPy_tup (m : Bool) (ds : List D) : toPy (.nd .tup m ds) = (toPyL ds).map .tuple := rfl
theorem toPy_lst (m : Bool) (ds : List D) : toPy (.nd .lst m ds) = (toPyL ds).map .list := rfl
mutual
theorem eqv_nb : ∀ (a b : D) (p q : PyData), nb a = true → nb b = true → toPy a = some p → toPy b = some q → PyData.eqv p q = decide (frz a = frz b)
  | .non, b, p, q, ha, hb, ea, eb => by
    cases ea
    cases b with
    | nd k m ds => cases k <;> simp [nb, toPy_tup, toPy_lst] at hb eb <;> first | (obtain ⟨x, _, rfl⟩ := eb; simp [PyData.eqv]) | skip
    | _ => simp [nb] at hb <;> cases eb <;> simp [PyData.eqv]
  | .int i, b, p, q, ha, hb, ea, eb => by
    cases ea
    cases b with
    | nd k m ds => cases k <;> simp [nb, toPy_tup, toPy_lst] at hb eb <;> first | (obtain ⟨x, _, rfl⟩ := eb; simp [PyData.eqv]) | skip
    | int j => cases eb; simp only [PyData.eqv, frz_int, D.int.injEq]; by_cases h : i = j <;> simp [h]
    | _ => simp [nb] at hb <;> cases eb <;> simp [PyData.eqv]
  | .str x, b, p, q, ha, hb, ea, eb => by
    cases ea
    cases b with
    | nd k m ds => cases k <;> simp [nb, toPy_tup, toPy_lst] at hb eb <;> first | (obtain ⟨x, _, rfl⟩ := eb; simp [PyData.eqv]) | skip
    | str y => cases eb; simp only [PyData.eqv, frz_str, D.str.injEq]; by_cases h : x = y <;> simp [h]
    | _ => simp [nb] at hb <;> cases eb <;> simp [PyData.eqv]
  | .bl _, b, p, q, ha, hb, ea, eb => by simp [nb] at ha
  | .nd (.dct _) _ _, b, p, q, ha, hb, ea, eb => by simp [nb] at ha
  | .nd (.ins _ _) _ _, b, p, q, ha, hb, ea, eb => by simp [nb] at ha
  | .nd .tup m ds, b, p, q, ha, hb, ea, eb => by
    rw [toPy_tup] at ea
    obtain ⟨ps, ea1, rfl⟩ := Option.map_eq_some_iff.mp ea
    cases b with
    | nd k m' es =>
      cases k with
      | tup =>
        rw [toPy_tup] at eb
        obtain ⟨qs, eb1, rfl⟩ := Option.map_eq_some_iff.mp eb
        rw [PyData.eqv, eqvL_nb ds es ps qs (by simpa [nb] using ha) (by simpa [nb] using hb) ea1 eb1]
        simp
      | lst =>
        rw [toPy_lst] at eb
        obtain ⟨qs, eb1, rfl⟩ := Option.map_eq_some_iff.mp eb
        simp [PyData.eqv]
      | _ => simp [nb] at hb
    | _ => simp [nb] at hb <;> cases eb <;> simp [PyData.eqv]
  | .nd .lst m ds, b, p, q, ha, hb, ea, eb => by
    rw [toPy_lst] at ea
    obtain ⟨ps, ea1, rfl⟩ := Option.map_eq_some_iff.mp ea
    cases b with
    | nd k m' es =>
      cases k with
      | lst =>
        rw [toPy_lst] at eb
        obtain ⟨qs, eb1, rfl⟩ := Option.map_eq_some_iff.mp eb
        rw [PyData.eqv, eqvL_nb ds es ps qs (by simpa [nb] using ha) (by simpa [nb] using hb) ea1 eb1]
        simp
      | tup =>
        rw [toPy_tup] at eb
        obtain ⟨qs, eb1, rfl⟩ := Option.map_eq_some_iff.mp eb
        simp [PyData.eqv]
      | _ => simp [nb] at hb
    | _ => simp [nb] at hb <;> cases eb <;> simp [PyData.eqv]
theorem eqvL_nb : ∀ (as bs : List D) (ps qs : List PyData), nbL as = true → nbL bs = true → toPyL as = some ps → toPyL bs = some qs → PyData.eqvAll ps qs = decide (frzL as = frzL bs)
  | [], [], ps, qs, _, _, ea, eb => by cases ea; cases eb; simp [PyData.eqvAll]
  | [], b :: bs, ps, qs, _, hb, ea, eb => by
    cases ea
    obtain ⟨q', z, _⟩ := nbL_py _ hb
    rw [eb] at z; cases z
    unfold toPyL at eb
    split at eb
    · cases eb; simp [PyData.eqvAll]
    · cases eb
  | a :: as, [], ps, qs, ha, _, ea, eb => by
    cases eb
    unfold toPyL at ea
    split at ea
    · cases ea; simp [PyData.eqvAll]
    · cases ea
  | a :: as, b :: bs, ps, qs, ha, hb, ea, eb => by
    simp only [nbL, Bool.and_eq_true] at ha hb
    unfold toPyL at ea eb
    split at ea
    · split at eb
      · rename_i _ _ p ps' z1 z2 _ _ q qs' z3 z4
        cases ea; cases eb
        rw [PyData.eqvAll, eqv_nb a b p q ha.1 hb.1 z1 z3, eqvL_nb as bs ps' qs' ha.2 hb.2 z2 z4]
        simp
      · cases eb
    · cases ea
end
/-- equality of plain data -/
theorem eqD_nb {a b : D} (ha : nb a = true) (hb : nb b = true) (da : dep a ≤ 64) (db : dep b ≤ 64) : eqD a b = some (decide (frz a = frz b)) := by
  obtain ⟨p, e1, c1, z1⟩ := nb_py a ha
  obtain ⟨q, e2, c2, z2⟩ := nb_py b hb
  unfold eqD
  rw [e1, e2]
  have h1 : SeqAt.shaped p = true := by unfold SeqAt.shaped; rw [c1, z1]; simp [da]
  have h2 : SeqAt.shaped q = true := by unfold SeqAt.shaped; rw [c2, z2]; simp [db]
  simp only [h1, h2, Bool.and_self, if_true]
  rw [eqv_nb a b p q ha hb e1 e2]
@[simp] theorem nbL_ints (ns : List Int) : nbL (ns.map D.int) = true := by
  induction ns with
  | nil => rfl
  | cons n ns ih => simp [nbL, nb, ih]
@[simp] theorem depL_ints (ns : List Int) : depL (ns.map D.int) = 0 := by
  induction ns with
  | nil => rfl
  | cons n ns ih => simp [depL, dep, ih]
theorem ints_inj {as bs : List Int} : (as.map D.int = bs.map D.int) ↔ as = bs := by
  constructor
  · intro h
    exact (List.map_inj_right (fun a b e => by cases e; rfl)).mp h
  · intro h; rw [h]
theorem eqD_ints (m m' : Bool) (as bs : List Int) : eqD (.nd .lst m (as.map D.int)) (.nd .lst m' (bs.map D.int)) = some (decide (as = bs)) := by
  rw [eqD_nb (by simp [nb]) (by simp [nb]) (by simp [dep]) (by simp [dep])]
  simp only [frz_nd, frzL_ints, D.nd.injEq, true_and]
  congr 1
  exact decide_eq_decide.mpr ints_inj
theorem eqD_ints_nil (m m' : Bool) (as : List Int) : eqD (.nd .lst m (as.map D.int)) (.nd .lst m' []) = some (decide (as = [])) := eqD_ints m m' as []
theorem eqD_intsT (m m' : Bool) (as bs : List Int) : eqD (.nd .tup m (as.map D.int)) (.nd .tup m' (bs.map D.int)) = some (decide (as = bs)) := by
  rw [eqD_nb (by simp [nb]) (by simp [nb]) (by simp [dep]) (by simp [dep])]
  simp only [frz_nd, frzL_ints, D.nd.injEq, true_and]
  congr 1
  exact decide_eq_decide.mpr ints_inj
/-! slices -/
theorem take_min {α : Type} (xs : List α) (a b : Nat) : (xs.drop (min a xs.length)).take (min b xs.length - min a xs.length) = (xs.drop a).take (b - a) := by
  by_cases h1 : a ≤ xs.length
  · rw [Nat.min_eq_left h1]
    by_cases h2 : b ≤ xs.length
    · rw [Nat.min_eq_left h2]
    · rw [Nat.min_eq_right (by omega), List.take_of_length_le (by simp), List.take_of_length_le (by simp; omega)]
  · rw [Nat.min_eq_right (a := a) (by omega), List.drop_of_length_le (Nat.le_refl _), List.drop_of_length_le (by omega)]
    simp
theorem cutA_nat {α : Type} (xs : List α) (a b : Nat) : cutA xs (some (a : Int)) (some (b : Int)) = (xs.drop a).take (b - a) := by
  unfold cutA
  rw [HT.sIx_nat, HT.sIx_nat, take_min]
theorem cutA_lo {α : Type} (xs : List α) (a : Nat) : cutA xs (some (a : Int)) none = xs.drop a := by
  unfold cutA
  rw [HT.sIx_nat, HT.sIx_none]
  by_cases h : a ≤ xs.length
  · rw [Nat.min_eq_left h, List.take_of_length_le (by simp)]
  · rw [Nat.min_eq_right (by omega), List.drop_of_length_le (Nat.le_refl _), List.drop_of_length_le (by omega)]
    simp
theorem cutA_hi {α : Type} (xs : List α) (b : Nat) : cutA xs none (some (b : Int)) = xs.take b := by
  unfold cutA
  rw [HT.sIx_none, HT.sIx_nat, List.drop_zero, Nat.sub_zero]
  by_cases h : b ≤ xs.length
  · rw [Nat.min_eq_left h]
  · rw [Nat.min_eq_right (by omega), List.take_of_length_le (Nat.le_refl _), List.take_of_length_le (by omega)]
theorem cutA_all {α : Type} (xs : List α) : cutA xs none none = xs := by
  unfold cutA
  rw [HT.sIx_none, HT.sIx_none]; simp
theorem shrL_map {α : Type} {f : α → D} (h : ∀ x, shr (f x) = true) (xs : List α) : shrL (xs.map f) = true := shrL_of fun d hd => by
  obtain ⟨i, _, rfl⟩ := List.mem_map.mp hd
  exact h i
theorem ownL_map {α : Type} {f : α → D} (h : ∀ x, own (f x) = true) (xs : List α) : ownL (xs.map f) = true := ownL_of fun d hd => by
  obtain ⟨i, _, rfl⟩ := List.mem_map.mp hd
  exact h i
theorem gSl_lst (m : Bool) (ds : List D) (lo hi : Option Int) (h : shrL (cutA ds lo hi) = true) : gSl (.nd .lst m ds) lo hi = some (.lst true (cutA ds lo hi)) := by
  show (if shrL (cutA ds lo hi) = true then _ else _) = _
  rw [if_pos h]
theorem cutA_map {α β : Type} (f : α → β) (xs : List α) (lo hi : Option Int) : cutA (xs.map f) lo hi = (cutA xs lo hi).map f := by
  unfold cutA
  simp [List.map_take, List.map_drop]
@[simp] theorem gSl_ints (m : Bool) (ns : List Int) (lo hi : Option Int) : gSl (.nd .lst m (ns.map D.int)) lo hi = some (.lst true ((cutA ns lo hi).map D.int)) := by
  rw [gSl_lst _ _ _ _ (by rw [cutA_map]; exact shrL_ints _), cutA_map]
/-! items -/
@[simp] theorem gIx_lst (m : Bool) (ds : List D) (i : Int) : gIx (.nd .lst m ds) (.int i) = L2.atI ds i := id rfl
@[simp] theorem gIx_tup (m : Bool) (ds : List D) (i : Int) : gIx (.nd .tup m ds) (.int i) = L2.atI ds i := id rfl
theorem atI_nat {α : Type} (ds : List α) (i : Nat) (h : i < ds.length) : L2.atI ds (i : Int) = some ds[i] := by
  unfold L2.atI ixN
  rw [if_pos (by omega), if_pos (by omega)]
  simp [h]
theorem atI_ints (ns : List Int) (i : Nat) (h : i < ns.length) : L2.atI (ns.map D.int) (i : Int) = some (.int ns[i]) := by
  rw [atI_nat _ _ (by simpa using h)]; simp
@[simp] theorem gLen_lst (m : Bool) (ds : List D) : gLen [.nd .lst m ds] = some (.int ds.length) := id rfl
@[simp] theorem gLen_tup (m : Bool) (ds : List D) : gLen [.nd .tup m ds] = some (.int ds.length) := id rfl
@[simp] theorem gIsi_bl (b : Bool) : gIsi "bool" (.bl b) = some (.bl true) := id rfl
end VL
/-! # VS3: loops by what holds behind them -/
namespace VL
open PySem PySem.Spec PyProof.Rows L2
/-- how a turn may end: P where the loop goes on, Q where it ends -/
@[irreducible] def okX (P : Slots → Prop) (Q : Out → Prop) : Out → Prop
  | .nx s => P s
  | .ct s => P s
  | .brk s => Q (.nx s)
  | .ret d s => Q (.ret d s)
  | .err c s => Q (.err c s)
  | .stuck => False
@[simp] theorem okX_nx {P : Slots → Prop} {Q : Out → Prop} (s : Slots) : okX P Q (.nx s) = P s := by unfold okX; rfl
@[simp] theorem okX_ct {P : Slots → Prop} {Q : Out → Prop} (s : Slots) : okX P Q (.ct s) = P s := by unfold okX; rfl
@[simp] theorem okX_brk {P : Slots → Prop} {Q : Out → Prop} (s : Slots) : okX P Q (.brk s) = Q (.nx s) := by unfold okX; rfl
@[simp] theorem okX_ret {P : Slots → Prop} {Q : Out → Prop} (d : D) (s : Slots) : okX P Q (.ret d s) = Q (.ret d s) := by unfold okX; rfl
@[simp] theorem okX_err {P : Slots → Prop} {Q : Out → Prop} (c : Str) (s : Slots) : okX P Q (.err c s) = Q (.err c s) := by unfold okX; rfl
@[simp] theorem okX_stuck {P : Slots → Prop} {Q : Out → Prop} : okX P Q .stuck = False := by unfold okX; rfl
theorem forL_wp {g : Fg} {body : Fs} {ds : List D} {s : Slots} {Q : Out → Prop} (P : Nat → Slots → Prop) (h0 : P 0 s) (step : ∀ i (hi : i < ds.length) s, P i s → ∃ s1, g ds[i] s = some s1 ∧ okX (P (i + 1)) Q (body s1)) (hQ : ∀ s, P ds.length s → Q (.nx s)) :
    Q (forL g body ds s) := by
  have key : ∀ (n : Nat) (es : List D) (s : Slots), n + es.length = ds.length → es = ds.drop n → P n s → Q (forL g body es s) := by
    intro n es
    induction es generalizing n with
    | nil =>
      intro s hl _ hp
      have e : n = ds.length := by simpa using hl
      subst e
      exact hQ s hp
    | cons e es ih =>
      intro s hl he hp
      have hn : n < ds.length := by rw [List.length_cons] at hl; omega
      have hd := List.drop_eq_getElem_cons hn
      rw [← he] at hd
      obtain ⟨h1, h2⟩ := List.cons.inj hd
      obtain ⟨s1, q1, q2⟩ := step n hn s hp
      rw [forL, h1, q1]
      cases hb : body s1 with
      | nx s2 => rw [hb, okX_nx] at q2; simp only [hb]; exact ih (n + 1) s2 (by rw [List.length_cons] at hl; omega) h2 q2
      | ct s2 => rw [hb, okX_ct] at q2; simp only [hb]; exact ih (n + 1) s2 (by rw [List.length_cons] at hl; omega) h2 q2
      | brk s2 => rw [hb, okX_brk] at q2; simp only [hb]; exact q2
      | ret d s2 => rw [hb, okX_ret] at q2; simp only [hb]; exact q2
      | err c s2 => rw [hb, okX_err] at q2; simp only [hb]; exact q2
      | stuck => rw [hb, okX_stuck] at q2; exact q2.elim
  exact key 0 ds s (by simp) rfl h0
theorem forR_wp {g : Fg} {body : Fs} {lo : Int} {n : Nat} {s : Slots} {Q : Out → Prop} (P : Nat → Slots → Prop) (h0 : P 0 s) (step : ∀ i, i < n → ∀ s, P i s → ∃ s1, g (.int (lo + (i : Nat))) s = some s1 ∧ okX (P (i + 1)) Q (body s1)) (hQ : ∀ s, P n s → Q (.nx s)) :
    Q (forL g body (rgD lo n) s) := by
  refine forL_wp P h0 (fun i hi s hp => ?_) (fun s hp => hQ s (by rwa [rgD_length] at hp))
  rw [rgD_at]
  exact step i (by rwa [rgD_length] at hi) s hp
/-- for k in range(n): the loop, stated at the statement -/
theorem sForR1_wp {f : Fb} {g : Fg} {body : Fs} {s : Slots} {Q : Out → Prop} {n : Nat} (h : f s = .ok (.int n)) (hn : n < 2 ^ 62) (P : Nat → Slots → Prop) (h0 : P 0 s) (step : ∀ i, i < n → ∀ s, P i s → ∃ s1, g (.int (i : Nat)) s = some s1 ∧ okX (P (i + 1)) Q (body s1)) (hQ : ∀ s, P n s → Q (.nx s)) :
    Q (sForR1 f g body s) := by
  rw [sForR1_eq h (by omega) (by omega)]
  refine forR_wp P h0 (fun i hi s hp => ?_) (fun s hp => hQ s (by simpa using hp))
  rw [Int.zero_add]
  exact step i (by simpa using hi) s hp
/-- a loop, then the rest -/
theorem seq_wp {o : Out} {g : Fs} {Q : Out → Prop} (h : (fun o => Q (o.seq g)) o) : Q (o.seq g) := h
theorem forR1_seq {f : Fb} {g : Fg} {body k : Fs} {s : Slots} {Q : Out → Prop} {n : Nat} (h : f s = .ok (.int n)) (hn : n < 2 ^ 62) (P : Nat → Slots → Prop) (h0 : P 0 s) (step : ∀ i, i < n → ∀ s, P i s → ∃ s1, g (.int (i : Nat)) s = some s1 ∧ okX (P (i + 1)) (fun o => Q (o.seq k)) (body s1)) (hQ : ∀ s, P n s → Q (k s)) :
    Q ((sForR1 f g body s).seq k) := sForR1_wp (Q := fun o => Q (o.seq k)) h hn P h0 step hQ
theorem forL_seq {g : Fg} {body k : Fs} {ds : List D} {s : Slots} {Q : Out → Prop} (P : Nat → Slots → Prop) (h0 : P 0 s) (step : ∀ i (hi : i < ds.length) s, P i s → ∃ s1, g ds[i] s = some s1 ∧ okX (P (i + 1)) (fun o => Q (o.seq k)) (body s1)) (hQ : ∀ s, P ds.length s → Q (k s)) :
    Q ((forL g body ds s).seq k) := forL_wp (Q := fun o => Q (o.seq k)) P h0 step hQ
end VL
namespace VL
open PySem PySem.Spec PyProof.Rows L2
@[simp] theorem sFz_eq (i : Nat) (g : Fs) (s : Slots) : sFz i g s = g (fzS i s) := id rfl
@[simp] theorem fzS_0 (d : D) (s : Slots) : fzS 0 (some d :: s) = some (frz d) :: s := id rfl
@[simp] theorem fzS_s (i : Nat) (o : Option D) (s : Slots) : fzS (i + 1) (o :: s) = o :: fzS i s := by
  unfold fzS
  rw [List.getElem?_cons_succ]
  split
  · rename_i h; rw [h]; rfl
  · rfl
end VL
/-! # VS4: side conditions by omega; what many laws draw by -/
namespace VL
open PySem PySem.Spec PyProof.Rows L2
theorem log2_lt {n k : Nat} (hk : 0 < k) (h : n < 2 ^ k) : n.log2 < k := by
  by_cases h0 : n = 0
  · subst h0; simpa using hk
  · exact (Nat.log2_lt h0).mpr h
theorem gMul_b {i j : Int} (h1 : -(2 ^ 250) < i) (h2 : i < 2 ^ 250) (h3 : -(2 ^ 250) < j) (h4 : j < 2 ^ 250) : gMulU (.int i) (.int j) = some (.int (i * j)) := by
  have e1 : i.natAbs < 2 ^ 250 := by omega
  have e2 : j.natAbs < 2 ^ 250 := by omega
  have z1 := log2_lt (k := 250) (by decide) e1
  have z2 := log2_lt (k := 250) (by decide) e2
  exact gMul_i (by omega)
theorem gDiv_b {i j : Int} (h : 0 < j) (h2 : j < 2 ^ 250) : gDiv (.int i) (.int j) = some (.int (i / j)) := by
  have e2 : j.natAbs < 2 ^ 250 := by omega
  have z2 := log2_lt (k := 250) (by decide) e2
  exact gDiv_i h (by omega)
theorem gShl_one {j : Int} (h : 0 ≤ j) (h2 : j ≤ 1000000) : gShl (.int 1) (.int j) = some (.int (2 ^ j.toNat)) := by
  rw [gShl_i h h2 (by decide), Int.one_mul]
theorem bitAnd_nat (a b : Nat) : Builtin.bitAnd (a : Int) (b : Int) = ((a &&& b : Nat) : Int) := PySem.W.os_band a b
theorem xor_add_and (a b : Nat) : (a ^^^ b) + 2 * (a &&& b) = a + b := by
  induction a using Nat.strongRecOn generalizing b with
  | _ a ih =>
    by_cases h : a = 0
    · subst h; simp
    · have z := ih (a / 2) (by omega) (b / 2)
      have e1 : (a ^^^ b) / 2 = (a / 2) ^^^ (b / 2) := Nat.xor_div_two
      have e2 : (a &&& b) / 2 = (a / 2) &&& (b / 2) := Nat.and_div_two
      have m1 : (a ^^^ b) % 2 = (a % 2 + b % 2) % 2 := by
        have := Nat.xor_mod_two_pow (a := a) (b := b) (n := 1)
        simp only [Nat.pow_one] at this
        rw [this]
        rcases Nat.mod_two_eq_zero_or_one a with h1 | h1 <;> rcases Nat.mod_two_eq_zero_or_one b with h2 | h2 <;> rw [h1, h2] <;> rfl
      have m2 : (a &&& b) % 2 = (a % 2) * (b % 2) := by
        have := Nat.and_mod_two_pow (a := a) (b := b) (n := 1)
        simp only [Nat.pow_one] at this
        rw [this]
        rcases Nat.mod_two_eq_zero_or_one a with h1 | h1 <;> rcases Nat.mod_two_eq_zero_or_one b with h2 | h2 <;> rw [h1, h2] <;> rfl
      have d1 := Nat.div_add_mod (a ^^^ b) 2
      have d2 := Nat.div_add_mod (a &&& b) 2
      have d3 := Nat.div_add_mod a 2
      have d4 := Nat.div_add_mod b 2
      rw [e1, m1] at d1
      rw [e2, m2] at d2
      rcases Nat.mod_two_eq_zero_or_one a with h1 | h1 <;> rcases Nat.mod_two_eq_zero_or_one b with h2 | h2 <;> rw [h1, h2] at d1 d2 <;> simp at d1 d2 <;> omega
theorem bitXor_nat (a b : Nat) : Builtin.bitXor (a : Int) (b : Int) = ((a ^^^ b : Nat) : Int) := by
  rw [bitXor_and, bitAnd_nat]
  have := xor_add_and a b
  omega
/-- what the laws mix a number by -/
@[irreducible] def mixI (n s : Int) : Int := (n * 69621 + s * 16807 + 1013) % 2147483647 * ((n * 69621 + s * 16807 + 1013) % 2147483647) % 2147483629
theorem mixI_lo (n s : Int) : 0 ≤ mixI n s := by unfold mixI; exact Int.emod_nonneg _ (by decide)
theorem mixI_hi (n s : Int) : mixI n s < 2147483629 := by unfold mixI; exact Int.emod_lt_of_pos _ (by decide)
def mixF : List D → Rb D := fnD 3 (sSeq (sSet 2 (oF (bBin gMod (bBin gAddU (bBin gAddU (bBin gMulU (bVar 0) (bC (.int 69621))) (bBin gMulU (bVar 1) (bC (.int 16807)))) (bC (.int 1013))) (bC (.int 2147483647)))))
  (sRet (oF (bBin gMod (bBin gMulU (bVar 2) (bVar 2)) (bC (.int 2147483629))))))
theorem mixF_ok {n s : Int} (h1 : 0 ≤ n) (h2 : n < 2 ^ 250) (h3 : 0 ≤ s) (h4 : s < 2 ^ 250) : mixF [.int n, .int s] = .ok (.int (mixI n s)) := by
  unfold mixF mixI
  rw [fnD_eq]
  have m1 : gMod (.int (n * 69621 + s * 16807 + 1013)) (.int 2147483647) = _ := gMod_i (by decide)
  have b1 := Int.emod_nonneg (n * 69621 + s * 16807 + 1013) (show (2147483647 : Int) ≠ 0 by decide)
  have b2 := Int.emod_lt_of_pos (n * 69621 + s * 16807 + 1013) (show (0 : Int) < 2147483647 by decide)
  generalize (n * 69621 + s * 16807 + 1013) % 2147483647 = r at *
  have e1 : gMulU (.int n) (.int 69621) = some (.int (n * 69621)) := gMul_b (by omega) (by omega) (by decide) (by decide)
  have e2 : gMulU (.int s) (.int 16807) = some (.int (s * 16807)) := gMul_b (by omega) (by omega) (by decide) (by decide)
  have e3 : gMulU (.int r) (.int r) = some (.int (r * r)) := gMul_b (by omega) (by omega) (by omega) (by omega)
  have m2 : gMod (.int (r * r)) (.int 2147483629) = _ := gMod_i (by decide)
  simp [e1, e2, e3, m1, m2]
def wholeF : List D → Rb D := fnD 1 (sRet (oF (fShr (bAnd (bUn (gIsi "int") (bVar 0)) (bNot (bUn (gIsi "bool") (bVar 0)))))))
@[simp] theorem gIsi_ii (i : Int) : gIsi "int" (.int i) = some (.bl true) := id rfl
@[simp] theorem gIsi_ib (i : Int) : gIsi "bool" (.int i) = some (.bl false) := id rfl
@[simp] theorem gIsi_tt (m : Bool) (ds : List D) : gIsi "tuple" (.nd .tup m ds) = some (.bl true) := id rfl
@[simp] theorem gIsi_ll (m : Bool) (ds : List D) : gIsi "list" (.nd .lst m ds) = some (.bl true) := id rfl
@[simp] theorem gIsi_dd (ks : List Key) (m : Bool) (ds : List D) : gIsi "dict" (.nd (.dct ks) m ds) = some (.bl true) := id rfl
@[simp] theorem gIsi_ss (x : Str) : gIsi "str" (.str x) = some (.bl true) := id rfl
theorem wholeF_ok (n : Int) : wholeF [.int n] = .ok (.bl true) := by
  unfold wholeF
  rw [fnD_eq]
  simp
@[irreducible] def wordI (n w : Int) : Int := (if n / 8 % 4 = 0 ∨ n / 8 % 4 = 1 then (mixI n 7 * 2147483629 + mixI n 8) * 8 + n % 8 else if n / 8 % 4 = 2 then 0 else 2 ^ w.toNat - 1) % 2 ^ w.toNat
theorem two_pow_pos (k : Nat) : (0 : Int) < 2 ^ k := Int.pow_pos (by decide)
theorem wordI_lo (n w : Int) : 0 ≤ wordI n w := by unfold wordI; exact Int.emod_nonneg _ (Int.ne_of_gt (two_pow_pos _))
theorem wordI_hi (n w : Int) : wordI n w < 2 ^ w.toNat := by unfold wordI; exact Int.emod_lt_of_pos _ (two_pow_pos _)
theorem wordI_64 (n : Int) : wordI n 64 < 18446744073709551616 := wordI_hi n 64
def wordF : List D → Rb D := fnD 3 (sSeq (sSet 2 (oF (bBin gAddU (bBin gMulU (bBin gAddU (bBin gMulU (bCall mixF (bCons (bVar 0) (bCons (bC (.int 7)) bNil))) (bC (.int 2147483629))) (bCall mixF (bCons (bVar 0) (bCons (bC (.int 8)) bNil)))) (bC (.int 8))) (bBin gMod (bVar 0) (bC (.int 8))))))
  (sRet (oF (bBin gMod (bBin gIx (bLst (bCons (fShr (bVar 2)) (bCons (fShr (bVar 2)) (bCons (bC (.int 0)) (bCons (bBin gSub (bBin gShl (bC (.int 1)) (bVar 1)) (bC (.int 1))) bNil))))) (bBin gMod (bBin gDiv (bVar 0) (bC (.int 8))) (bC (.int 4)))) (bBin gShl (bC (.int 1)) (bVar 1))))))
theorem sizeLine_ge : 1000000 ≤ sizeLine := by decide
theorem gMod_nat {i j : Int} (h : 0 < j) : gMod (.int i) (.int j) = some (.int (i % j)) := gMod_i h
theorem wordF_ok {n w : Int} (h1 : 0 ≤ n) (h2 : n < 2 ^ 200) (h3 : 0 ≤ w) (h4 : w ≤ 1000) : wordF [.int n, .int w] = .ok (.int (wordI n w)) := by
  unfold wordF wordI
  rw [fnD_eq]
  have e1 := mixF_ok (n := n) (s := 7) h1 (by omega) (by decide) (by decide)
  have e2 := mixF_ok (n := n) (s := 8) h1 (by omega) (by decide) (by decide)
  have a1 := mixI_lo n 7
  have a2 := mixI_hi n 7
  have a3 := mixI_lo n 8
  have a4 := mixI_hi n 8
  generalize mixI n 7 = a at *
  generalize mixI n 8 = b at *
  have g1 : gMulU (.int a) (.int 2147483629) = some (.int (a * 2147483629)) := gMul_b (by omega) (by omega) (by decide) (by decide)
  have g2 : gMulU (.int (a * 2147483629 + b)) (.int 8) = some (.int ((a * 2147483629 + b) * 8)) := gMul_b (by omega) (by omega) (by decide) (by decide)
  have m1 : gMod (.int n) (.int 8) = some (.int (n % 8)) := gMod_i (by decide)
  have d1 : gDiv (.int n) (.int 8) = some (.int (n / 8)) := gDiv_b (by decide) (by decide)
  have m2 : gMod (.int (n / 8)) (.int 4) = some (.int (n / 8 % 4)) := gMod_i (by decide)
  have s1 : gShl (.int 1) (.int w) = some (.int (2 ^ w.toNat)) := gShl_one h3 (by omega)
  have m3 : ∀ x : Int, gMod (.int x) (.int (2 ^ w.toNat)) = some (.int (x % 2 ^ w.toNat)) := fun x => gMod_i (two_pow_pos _)
  have hz := sizeLine_ge
  have hz' : (4 : Nat) ≤ sizeLine := by omega
  simp [e1, e2, g1, g2, m1, d1, m2, s1, hz']
  have c : n / 8 % 4 = 0 ∨ n / 8 % 4 = 1 ∨ n / 8 % 4 = 2 ∨ n / 8 % 4 = 3 := by omega
  rcases c with c | c | c | c <;> rw [c] <;> simp [atI, ixN, m3]
theorem gAdd_lst {m m' : Bool} {xs ys : List D} (h1 : shrL xs = true) (h2 : shrL ys = true) (h3 : xs.length + ys.length ≤ 1000000) : gAddU (.nd .lst m xs) (.nd .lst m' ys) = some (.lst true (xs ++ ys)) := by
  have hz := sizeLine_ge
  show (if (shrL xs && shrL ys) = true ∧ xs.length + ys.length ≤ sizeLine then _ else _) = _
  rw [if_pos ⟨by rw [h1, h2]; rfl, by omega⟩]
theorem gAdd_tup {m m' : Bool} {xs ys : List D} (h1 : shrL xs = true) (h2 : shrL ys = true) (h0 : 0 < xs.length) (h3 : xs.length + ys.length ≤ 1000000) : gAddU (.nd .tup m xs) (.nd .tup m' ys) = some (.tup (xs ++ ys)) := by
  have hz := sizeLine_ge
  show (if (shrL xs && shrL ys) = true ∧ 0 < xs.length ∧ xs.length + ys.length ≤ sizeLine then _ else _) = _
  rw [if_pos ⟨by rw [h1, h2]; rfl, h0, by omega⟩]
/-- the script's first number, or another one -/
def headI (ns : List Int) (d : Int) : Int := ns.headD d
theorem head_add (m : Bool) (ns : List Int) (d : Int) (h : ns.length ≤ 63) : gAddU (.nd .lst m (ns.map D.int)) (.nd .lst true [.int d]) = some (.lst true (ns.map D.int ++ [.int d])) := gAdd_lst (shrL_ints _) rfl (by simp; omega)
theorem head_at (ns : List Int) (d : Int) : atI (ns.map D.int ++ [.int d]) 0 = some (.int (headI ns d)) := by
  cases ns with
  | nil => rfl
  | cons n ns =>
    have z := atI_nat ((n :: ns).map D.int ++ [.int d]) 0 (by simp)
    exact z
theorem eq3 (a b c a' b' c' : Int) : eqD (.tup [.int a, .int b, .int c]) (.tup [.int a', .int b', .int c']) = some (decide (a = a' ∧ b = b' ∧ c = c')) := by
  have z := eqD_intsT false false [a, b, c] [a', b', c']
  simpa using z
@[simp] theorem gAdd_int (i j : Int) : gAddU (.int i) (.int j) = some (.int (i + j)) := id rfl
end VL
/-! # VS5: places by simp; bits -/
namespace VL
open PySem PySem.Spec PyProof.Rows L2
def Rb.outP {α : Type} (x : Rb α) (s : Slots) (k : α → Out) : Out := match x with
  | .ok a => k a
  | .err c => .err c s
  | .stuck => .stuck
@[simp] theorem Rb.outP_ok {α : Type} (a : α) (s : Slots) (k : α → Out) : (Rb.ok a).outP s k = k a := id rfl
@[simp] theorem Rb.outP_err {α : Type} (c : Str) (s : Slots) (k : α → Out) : (Rb.err c : Rb α).outP s k = .err c s := id rfl
@[simp] theorem Rb.outP_stuck {α : Type} (s : Slots) (k : α → Out) : (Rb.stuck : Rb α).outP s k = .stuck := id rfl
@[simp] theorem pName_0 (d : D) (s : Slots) : pName 0 (some d :: s) = .ok (0, [], d) := id rfl
@[simp] theorem pName_s (i : Nat) (o : Option D) (s : Slots) : pName (i + 1) (o :: s) = (pName i s).bind fun x => .ok (x.1 + 1, x.2.1, x.2.2) := by
  unfold pName
  rw [List.getElem?_cons_succ]
  cases s[i]? with
  | none => rfl
  | some o => cases o <;> rfl
def ixP (x : Nat × List Nat × D) (k : D) : Rb (Nat × List Nat × D) := match gIdx x.2.2 k with
  | some n => match (kidsD x.2.2)[n]? with
    | some d => .ok (x.1, x.2.1 ++ [n], d)
    | none => .stuck
  | none => .stuck
@[simp] theorem pIx_eq (p : Fpt) (f : Fb) (s : Slots) : pIx p f s = (p s).bind fun x => (f s).bind fun k => ixP x k := id rfl
theorem ixN_nat {n i : Nat} (h : i < n) : ixN n (i : Int) = some i := by
  unfold ixN
  rw [if_pos (by omega), if_pos (by omega)]
  simp
theorem ixP_lst {i : Nat} {π : List Nat} {m : Bool} {ds : List D} {n : Nat} (h : n < ds.length) : ixP (i, π, .nd .lst m ds) (.int (n : Int)) = .ok (i, π ++ [n], ds[n]) := by
  have e : gIdx (.nd .lst m ds) (.int (n : Int)) = some n := ixN_nat h
  have e2 : (kidsD (.nd .lst m ds))[n]? = some ds[n] := List.getElem?_eq_getElem h
  unfold ixP
  simp only [e, e2]
@[simp] theorem putAt_0 (d e : D) (π : List Nat) (s : Slots) : putAt (some d :: s) 0 π e = some (setAt e π d) :: s := id rfl
@[simp] theorem putAt_s (i : Nat) (o : Option D) (e : D) (π : List Nat) (s : Slots) : putAt (o :: s) (i + 1) π e = o :: putAt s i π e := by
  unfold putAt
  rw [List.getElem?_cons_succ]
  cases s[i]? with
  | none => rfl
  | some o => cases o <;> rfl
@[simp] theorem setAt_nil (e d : D) : setAt e [] d = e := by rw [setAt]
@[simp] theorem setAt_cons (e : D) (n : Nat) (π : List Nat) (k : Kd) (m : Bool) (ds : List D) : setAt e (n :: π) (.nd k m ds) = .nd k m (ds.set n (setAt e π (ds.getD n .non))) := by rw [setAt]
/-- append -/
def appP (f : Fb) (s : Slots) (x : Nat × List Nat × D) : Out := match x.2.2 with
  | .nd .lst true ds => (f s).out s fun d s => if ds.length < sizeLine then .nx (putAt s x.1 x.2.1 (.nd .lst true (ds ++ [d]))) else .stuck
  | _ => .stuck
@[simp] theorem appP_lst (f : Fb) (s : Slots) (i : Nat) (π : List Nat) (ds : List D) : appP f s (i, π, .nd .lst true ds) = (f s).out s fun d s => if ds.length < sizeLine then .nx (putAt s i π (.nd .lst true (ds ++ [d]))) else .stuck := id rfl
@[simp] theorem sApp_eq (p : Fpt) (f : Fb) (s : Slots) : sApp p f s = (p s).outP s (appP f s) := by
  unfold sApp sLst
  cases p s with
  | ok x =>
    obtain ⟨i, π, d⟩ := x
    rw [Rb.outP_ok]
    unfold appP Rb.out
    cases d with
    | nd k m ds =>
      cases k with
      | lst => cases m <;> rfl
      | _ => rfl
    | _ => rfl
  | err c => rfl
  | stuck => rfl
/-- p[k] = e -/
def putP (fk : Fb) (d : D) (s : Slots) (x : Nat × List Nat × D) : Out := (fk s).outP s fun kd => setItems s x.1 x.2.1 kd d x.2.2
@[simp] theorem putP_eq (fk : Fb) (d : D) (s : Slots) (i : Nat) (π : List Nat) (e : D) : putP fk d s (i, π, e) = (fk s).outP s fun kd => setItems s i π kd d e := id rfl
@[simp] theorem sPut_oF (p : Fpt) (fk f : Fb) (s : Slots) : sPut p fk (oF f) s = (f s).out s fun d s => (p s).outP s (putP fk d s) := by
  unfold sPut
  rw [sO_oF]
  cases f s with
  | ok d =>
    rw [Rb.out_ok, Rb.out_ok]
    cases p s with
    | ok x => rw [Rb.outP_ok]; unfold putP; cases fk s <;> rfl
    | err c => rfl
    | stuck => rfl
  | err c => rfl
  | stuck => rfl
theorem setItems_lst {s : Slots} {i : Nat} {π : List Nat} {d : D} {ds : List D} {n : Nat} (h : n < ds.length) : setItems s i π (.int (n : Int)) d (.nd .lst true ds) = .nx (putAt s i π (.nd .lst true (ds.set n d))) := by
  show (match ixN ds.length (n : Int) with | some j => Out.nx (putAt s i π (.nd .lst true (ds.set j d))) | none => .stuck) = _
  rw [ixN_nat h]
/-! ### bits -/
def amidN (a b c : Nat) : Nat := a ^^^ ((a ^^^ b) &&& c)
def bitN (a b c k : Nat) : Nat := if c / 2 ^ k % 2 = 1 then b / 2 ^ k % 2 else a / 2 ^ k % 2
theorem testBit_div (x i : Nat) : x.testBit i = decide (x / 2 ^ i % 2 = 1) := Nat.testBit_eq_decide_div_mod_eq
theorem amid_bit (a b c k : Nat) : amidN a b c / 2 ^ k % 2 = bitN a b c k := by
  have h : (amidN a b c).testBit k = if c.testBit k then b.testBit k else a.testBit k := by
    unfold amidN
    rw [Nat.testBit_xor, Nat.testBit_and, Nat.testBit_xor]
    cases a.testBit k <;> cases b.testBit k <;> cases c.testBit k <;> rfl
  rw [testBit_div, testBit_div, testBit_div, testBit_div] at h
  unfold bitN
  rcases Nat.mod_two_eq_zero_or_one (amidN a b c / 2 ^ k) with h1 | h1 <;> rcases Nat.mod_two_eq_zero_or_one (b / 2 ^ k) with h2 | h2 <;> rcases Nat.mod_two_eq_zero_or_one (a / 2 ^ k) with h3 | h3 <;> rcases Nat.mod_two_eq_zero_or_one (c / 2 ^ k) with h4 | h4 <;> simp [h1, h2, h3, h4] at h ⊢
theorem amid_step (a b c k : Nat) : amidN a b c % 2 ^ (k + 1) = amidN a b c % 2 ^ k + bitN a b c k * 2 ^ k := by
  rw [← amid_bit, Nat.mod_pow_succ, Nat.mul_comm]
theorem amid_lt {a b c n : Nat} (ha : a < 2 ^ n) (hb : b < 2 ^ n) : amidN a b c < 2 ^ n :=
  Nat.xor_lt_two_pow ha (Nat.lt_of_le_of_lt Nat.and_le_left (Nat.xor_lt_two_pow ha hb))
theorem amid_zero (a b : Nat) : amidN a b 0 = a := by unfold amidN; rw [Nat.and_zero, Nat.xor_zero]
theorem amid_full {a b n : Nat} (ha : a < 2 ^ n) (hb : b < 2 ^ n) : amidN a b (2 ^ n - 1) = b := by
  unfold amidN
  rw [Nat.and_two_pow_sub_one_of_lt_two_pow (Nat.xor_lt_two_pow ha hb), ← Nat.xor_assoc, Nat.xor_self, Nat.zero_xor]
theorem amid_both (a b c : Nat) : amidN a b c + amidN b a c = a + b := by
  have e1 : amidN a b c ^^^ amidN b a c = a ^^^ b := by
    apply Nat.eq_of_testBit_eq
    intro i
    unfold amidN
    simp only [Nat.testBit_xor, Nat.testBit_and]
    cases a.testBit i <;> cases b.testBit i <;> cases c.testBit i <;> rfl
  have e2 : amidN a b c &&& amidN b a c = a &&& b := by
    apply Nat.eq_of_testBit_eq
    intro i
    unfold amidN
    simp only [Nat.testBit_xor, Nat.testBit_and]
    cases a.testBit i <;> cases b.testBit i <;> cases c.testBit i <;> rfl
  have z1 := xor_add_and (amidN a b c) (amidN b a c)
  have z2 := xor_add_and a b
  rw [e1, e2] at z1
  omega
def amidF : List D → Rb D := fnD 3 (sRet (oF (bBin gXor (bVar 0) (bBin gAnd (bBin gXor (bVar 0) (bVar 1)) (bVar 2)))))
theorem amidF_ok (a b c : Nat) : amidF [.int a, .int b, .int c] = .ok (.int (amidN a b c)) := by
  unfold amidF amidN
  rw [fnD_eq]
  simp [bitXor_nat, bitAnd_nat]
end VL
/-! # VS6: comprehensions; signs and sights -/
namespace VL
open PySem PySem.Spec PyProof.Rows L2
@[simp] theorem wipeD_nil (s : Slots) : wipeD s [] = s := id rfl
@[simp] theorem wipeD_cons (s : Slots) (v : Nat) (vs : List Nat) : wipeD s (v :: vs) = (wipeD s vs).set v none := id rfl
theorem compL_filt {α : Type} {g : Fg} {c : Ft} {el : Fb} {vs : List Nat} {s : Slots} (f h : α → D) (p : α → Bool) : ∀ (xs : List α), (∀ x ∈ xs, ∃ s1, g (f x) (wipeD s vs) = some s1 ∧ c s1 = .ok (p x) ∧ (p x = true → el s1 = .ok (h x))) →
    compL g c el vs (xs.map f) s = .ok ((xs.filter p).map h)
  | [], _ => rfl
  | x :: xs, H => by
    obtain ⟨s1, h1, h2, h3⟩ := H x (by simp)
    have ih := compL_filt f h p xs fun y hy => H y (List.mem_cons_of_mem _ hy)
    rw [List.map_cons, compL, h1]
    simp only [h2, noErr, Rb.bind_ok]
    cases hp : p x with
    | true =>
      rw [List.filter_cons_of_pos hp, if_pos rfl, h3 hp, ih]
      rfl
    | false =>
      rw [List.filter_cons_of_neg (by simp [hp]), if_neg (by simp)]
      exact ih
theorem compL_map {α : Type} {g : Fg} {el : Fb} {vs : List Nat} {s : Slots} (f h : α → D) (xs : List α) (H : ∀ x ∈ xs, ∃ s1, g (f x) (wipeD s vs) = some s1 ∧ el s1 = .ok (h x)) :
    compL g cYes el vs (xs.map f) s = .ok (xs.map h) := by
  have z := compL_filt (c := cYes) f h (fun _ => true) xs fun x hx => by
    obtain ⟨s1, h1, h2⟩ := H x hx
    exact ⟨s1, h1, rfl, fun _ => h2⟩
  rw [z, List.filter_eq_self.mpr (by simp)]
theorem bLc_eq {f : Fb} {g : Fg} {c : Ft} {el : Fb} {vs : List Nat} {s : Slots} {d : D} {ds r : List D} (h : f s = .ok d) (e : itemsD d = some ds) (hs : shrL ds = true) (k : compL g c el vs ds s = .ok r) (hl : r.length ≤ 1000000) : bLc f g c el vs s = .ok (.lst true r) := by
  have hz := sizeLine_ge
  unfold bLc
  rw [h]
  simp only [Rb.bind_ok, e, if_pos hs, k, noErr]
  rw [if_pos (by omega)]
theorem rgB_of {i j : Int} (h1 : -(2 ^ 62) ≤ i) (h2 : i < 2 ^ 62) (h3 : -(2 ^ 62) ≤ j) (h4 : j < 2 ^ 62) : rgB i j = true := decide_eq_true ⟨h1, h2, h3, h4⟩
theorem rgD_zero (n : Nat) : rgD 0 n = (List.range n).map fun i => D.int (i : Nat) := by
  unfold rgD
  congr 1
  funext i
  rw [Int.zero_add]
theorem finL_ok {r : List D} (hl : r.length ≤ 1000000) : finL (.ok r) = .ok (.lst true r) := by
  have hz := sizeLine_ge
  have h : r.length ≤ sizeLine := Nat.le_trans hl hz
  unfold finL
  simp only [noErr, Rb.bind]
  rw [if_pos h]
theorem bLcR1_int {f : Fb} {g : Fg} {c : Ft} {el : Fb} {vs : List Nat} {s : Slots} {j : Int} (h : f s = .ok (.int j)) (hb : rgB 0 j = true) : bLcR1 f g c el vs s = finL (compL g c el vs (rgD 0 j.toNat) s) := by
  unfold bLcR1
  rw [h]
  exact if_pos hb
theorem bLcR2_int {f f' : Fb} {g : Fg} {c : Ft} {el : Fb} {vs : List Nat} {s : Slots} {i j : Int} (h : f s = .ok (.int i)) (h' : f' s = .ok (.int j)) (hb : rgB i j = true) : bLcR2 f f' g c el vs s = finL (compL g c el vs (rgD i (j - i).toNat) s) := by
  unfold bLcR2
  rw [h, h']
  exact if_pos hb
theorem bLcR1_eq {f : Fb} {g : Fg} {c : Ft} {el : Fb} {vs : List Nat} {s : Slots} {n : Nat} {r : List D} (h : f s = .ok (.int n)) (hn : n < 2 ^ 62) (k : compL g c el vs ((List.range n).map fun i => .int (i : Nat)) s = .ok r) (hl : r.length ≤ 1000000) : bLcR1 f g c el vs s = .ok (.lst true r) := by
  have hb : rgB 0 (n : Int) = true := rgB_of (by omega) (by omega) (by omega) (by omega)
  rw [bLcR1_int h hb, Int.toNat_natCast, rgD_zero, k, finL_ok hl]
theorem rgD_nat (lo n : Nat) : rgD lo n = (List.range' lo n).map fun i => D.int (i : Nat) := by
  unfold rgD
  rw [List.range'_eq_map_range, List.map_map]
  congr 1
theorem bLcR2_eq {f f' : Fb} {g : Fg} {c : Ft} {el : Fb} {vs : List Nat} {s : Slots} {lo hi : Nat} {r : List D} (h : f s = .ok (.int lo)) (h' : f' s = .ok (.int hi)) (hl1 : lo < 2 ^ 62) (hn : hi < 2 ^ 62) (k : compL g c el vs ((List.range' lo (hi - lo)).map fun i => .int (i : Nat)) s = .ok r) (hl : r.length ≤ 1000000) : bLcR2 f f' g c el vs s = .ok (.lst true r) := by
  have hb : rgB (lo : Int) (hi : Int) = true := rgB_of (by omega) (by omega) (by omega) (by omega)
  have e : ((hi : Int) - (lo : Int)).toNat = hi - lo := by omega
  rw [bLcR2_int h h' hb, e, rgD_nat, k, finL_ok hl]
theorem atI_last {α : Type} (ds : List α) (h : 0 < ds.length) : L2.atI ds (-1) = some (ds[ds.length - 1]'(by omega)) := by
  unfold L2.atI ixN
  rw [if_neg (by omega), if_pos (by omega)]
  have e : (-1 + (ds.length : Int)).toNat = ds.length - 1 := by omega
  simp only [Option.bind_some, e]
  exact List.getElem?_eq_getElem (by omega)
theorem cutA_butlast {α : Type} (xs : List α) (h : 0 < xs.length) : cutA xs none (some (-1)) = xs.take (xs.length - 1) := by
  unfold cutA
  rw [HT.sIx_none]
  have e : HT.sIx xs.length xs.length (some (-1)) = xs.length - 1 := by
    show (if (-1 : Int) < 0 then ((-1 : Int) + (xs.length : Int)).toNat else min (-1 : Int).toNat xs.length) = _
    rw [if_pos (by decide)]; omega
  rw [e]; simp
theorem gTuple_lst (m : Bool) (ds : List D) (h : shrL ds = true) : gTuple [.nd .lst m ds] = some (.tup ds) := by
  show (if shrL ds = true then _ else _) = _
  rw [if_pos h]
theorem gSl_tup (m : Bool) (ds : List D) (lo hi : Option Int) (h : shrL (cutA ds lo hi) = true) : gSl (.nd .tup m ds) lo hi = some (.tup (cutA ds lo hi)) := by
  show (if shrL (cutA ds lo hi) = true then _ else _) = _
  rw [if_pos h]
@[simp] theorem gSl_intsT (m : Bool) (ns : List Int) (lo hi : Option Int) : gSl (.nd .tup m (ns.map D.int)) lo hi = some (.tup ((cutA ns lo hi).map D.int)) := by
  rw [gSl_tup _ _ _ _ (by rw [cutA_map]; exact shrL_ints _), cutA_map]
def firstSignF : List D → Rb D := fnD 1 (sRet (oF (bTup (bCons (fShr (bVar 0)) (bCons (fShr (bVar 0)) (bCons (bUn gNeg (bC (.int 1))) bNil))))))
theorem firstSignF_ok (n : Int) : firstSignF [.int n] = .ok (.tup [.int n, .int n, .int (-1)]) := by
  unfold firstSignF
  rw [fnD_eq]
  have hz := sizeLine_ge
  have hz' : (3 : Nat) ≤ sizeLine := by omega
  simp [hz']
def shownF : List D → Rb D := fnD 3 (sRet (oF (bTup (bCons (fShr (bVar 1)) (bCons (fShr (bBin gIx (bVar 0) (bC (.int 0)))) (bCons (fShr (bVar 2)) bNil))))))
theorem shownF_ok (a b c w m : Int) : shownF [.tup [.int a, .int b, .int c], .int w, .int m] = .ok (.tup [.int w, .int a, .int m]) := by
  unfold shownF
  rw [fnD_eq]
  have hz := sizeLine_ge
  have hz' : (3 : Nat) ≤ sizeLine := by omega
  simp [hz', atI, ixN]
def sampledF : List D → Rb D := fnD 3 (sSeq (sIf (tsB (bBin gGt (bBin gIx (bVar 0) (bC (.int 2))) (bVar 1))) (sRet (oF (bCall amidF (bCons (bBin gIx (bVar 0) (bC (.int 1))) (bCons (bBin gIx (bVar 0) (bC (.int 0))) (bCons (bVar 2) bNil)))))) sNext)
  (sRet (oF (fShr (bBin gIx (bVar 0) (bC (.int 0)))))))
theorem sampledF_ok (w a c : Nat) (m s : Int) : sampledF [.tup [.int w, .int a, .int m], .int s, .int c] = .ok (.int (if m > s then ((amidN a w c : Nat) : Int) else (w : Int))) := by
  unfold sampledF
  rw [fnD_eq]
  by_cases h : m > s
  · have h' : s < m := h
    simp [atI, ixN, h', amidF_ok]
  · have h' : ¬ s < m := h
    simp [atI, ixN, h']
def firstSightF : List D → Rb D := fnD 3 (sRet (oF (bCB gTuple (bCons (bLcR1 (bVar 1) (gtName 2) cYes (fShr (bVar 0)) [2]) bNil))))
theorem firstSightF_ok (w : Int) (n : Nat) (h : n ≤ 1000) : firstSightF [.int w, .int n] = .ok (.tup ((List.replicate n w).map D.int)) := by
  unfold firstSightF
  rw [fnD_eq]
  have k : compL (gtName 2) cYes (fShr (bVar 0)) [2] ((List.range n).map fun i => .int (i : Nat)) [some (.int w), some (.int n), none] = .ok ((List.range n).map fun _ => D.int w) :=
    compL_map _ _ _ fun x hx => ⟨_, rfl, by simp⟩
  have e := bLcR1_eq (f := bVar 1) (s := [some (.int w), some (.int n), none]) rfl (by omega) k (by simp; omega)
  have e2 : ((List.range n).map fun _ => D.int w) = (List.replicate n w).map D.int := by
    rw [List.map_const', List.length_range, List.map_replicate]
  rw [e2] at e
  have e4 := gTuple_lst true ((List.replicate n w).map D.int) (shrL_ints _)
  have e5 := ownL_ints (List.replicate n w)
  generalize (List.replicate n w).map D.int = r at *
  simp [e, e4, e5]
def movedF : List D → Rb D := fnD 2 (sRet (oF (bBin gAddU (bTup (bCons (fShr (bVar 1)) bNil)) (bSl (bVar 0) bNoPart (bPart (bUn gNeg (bC (.int 1))))))))
theorem movedF_ok (xs : List Int) (w : Int) (h : 0 < xs.length) (h2 : xs.length ≤ 1000) : movedF [.tup (xs.map D.int), .int w] = .ok (.tup ((w :: xs.take (xs.length - 1)).map D.int)) := by
  unfold movedF
  rw [fnD_eq]
  have hz := sizeLine_ge
  have hz' : (1 : Nat) ≤ sizeLine := by omega
  have a := gAdd_tup (m := false) (m' := false) (xs := [D.int w]) (ys := (xs.take (xs.length - 1)).map D.int) rfl (shrL_ints _) (by simp) (by simp; omega)
  simp only [List.map_take] at a
  simp [hz', cutA_butlast xs h, a]
  rw [← List.map_take, ownL_ints]
def usedF : List D → Rb D := fnD 1 (sRet (oF (fShr (bBin gIx (bVar 0) (bUn gNeg (bC (.int 1)))))))
theorem usedF_ok (xs : List Int) (h : 0 < xs.length) : usedF [.tup (xs.map D.int)] = .ok (.int (xs[xs.length - 1]'(by omega))) := by
  unfold usedF
  rw [fnD_eq]
  have z := atI_last (xs.map D.int) (by simpa using h)
  simp at z
  simp [z]
end VL
/-! # VS7: while; code words -/
namespace VL
open PySem PySem.Spec PyProof.Rows L2
theorem while_wp {c : Ft} {body : Fs} {Q : Out → Prop} (P : Nat → Slots → Prop) (step : ∀ k s, P k s → (c s = .ok false ∧ Q (.nx s)) ∨ (c s = .ok true ∧ 0 < k ∧ okX (P (k - 1)) Q (body s))) : ∀ (fuel k : Nat) (s : Slots), k < fuel → P k s → Q (whileL c body fuel s)
  | 0, k, s, h, _ => by omega
  | fuel + 1, k, s, h, hp => by
    unfold whileL
    rcases step k s hp with ⟨h1, h2⟩ | ⟨h1, h2, h3⟩
    · rw [h1]; exact h2
    · rw [h1]
      simp only [if_true]
      cases hb : body s with
      | nx s2 => rw [hb, okX_nx] at h3; simp only; exact while_wp P step fuel (k - 1) s2 (by omega) h3
      | ct s2 => rw [hb, okX_ct] at h3; simp only; exact while_wp P step fuel (k - 1) s2 (by omega) h3
      | brk s2 => rw [hb, okX_brk] at h3; simp only; exact h3
      | ret d s2 => rw [hb, okX_ret] at h3; simp only; exact h3
      | err c s2 => rw [hb, okX_err] at h3; simp only; exact h3
      | stuck => rw [hb, okX_stuck] at h3; exact h3.elim
theorem while_seq {c : Ft} {body k : Fs} {s : Slots} {Q : Out → Prop} (P : Nat → Slots → Prop) (N : Nat) (hN : N < 100000) (h0 : P N s) (step : ∀ k' s, P k' s → (c s = .ok false ∧ Q (k s)) ∨ (c s = .ok true ∧ 0 < k' ∧ okX (P (k' - 1)) (fun o => Q (o.seq k)) (body s))) : Q ((whileL c body bigFuel s).seq k) := by
  rw [bigFuel_eq]
  exact while_wp (Q := fun o => Q (o.seq k)) P step 100000 N s hN h0
/-! code words -/
def codeN (n : Nat) : Nat := n ^^^ (n / 2)
def unc : Nat → Nat → Nat
  | 0, _ => 0
  | k + 1, w => w ^^^ unc k (w / 2)
theorem unc_zero : ∀ k, unc k 0 = 0
  | 0 => rfl
  | k + 1 => by rw [unc, Nat.zero_div, unc_zero k]; rfl
theorem unc_code : ∀ (k n : Nat), n < 2 ^ k → unc k (codeN n) = n
  | 0, n, h => by
    have : n = 0 := by simpa using h
    subst this; rfl
  | k + 1, n, h => by
    rw [unc]
    have e : codeN n / 2 = codeN (n / 2) := by
      unfold codeN
      rw [Nat.xor_div_two]
    rw [e, unc_code k (n / 2) (by rw [Nat.pow_succ] at h; omega)]
    unfold codeN
    rw [Nat.xor_assoc, Nat.xor_self, Nat.xor_zero]
theorem code_lt {n k : Nat} (h : n < 2 ^ k) : codeN n < 2 ^ k := Nat.xor_lt_two_pow h (Nat.lt_of_le_of_lt (Nat.div_le_self _ _) h)
def codeF : List D → Rb D := fnD 1 (sRet (oF (bBin gXor (bVar 0) (bBin gDiv (bVar 0) (bC (.int 2))))))
theorem codeF_ok (n : Nat) : codeF [.int n] = .ok (.int (codeN n)) := by
  unfold codeF codeN
  rw [fnD_eq]
  have d : gDiv (.int n) (.int 2) = some (.int ((n / 2 : Nat) : Int)) := gDiv_b (by decide) (by decide)
  have x : gXor (.int n) (.int ((n / 2 : Nat) : Int)) = some (.int ((n ^^^ n / 2 : Nat) : Int)) := by rw [gXor_i, bitXor_nat]
  generalize n ^^^ n / 2 = r at *
  generalize n / 2 = q at *
  simp [d, x]
def numberB : Fs := (sSeq (sSet 1 (oF (bBin gXor (bVar 1) (bVar 0))))
  (sSet 0 (oF (bBin gDiv (bVar 0) (bC (.int 2))))))
def numberF : List D → Rb D := fnD 2 (sSeq (sSet 1 (oF (bC (.int 0))))
  (sSeq (whileL (tsB (bBin gGt (bVar 0) (bC (.int 0)))) numberB bigFuel)
  (sRet (oF (fShr (bVar 1))))))
def JN (r : Nat) (k : Nat) (s : Slots) : Prop := ∃ w n : Nat, w < 2 ^ k ∧ n ^^^ unc k w = r ∧ s = [some (.int w), some (.int n)]
theorem numberF_ok {w k : Nat} (h : w < 2 ^ k) (hk : k ≤ 1000) : numberF [.int w] = .ok (.int (unc k w)) := by
  unfold numberF
  rw [fnD_eq]
  simp
  refine while_seq (Q := fun o => o.val = Rb.ok (D.int (unc k w))) (JN (unc k w)) k (by omega) ⟨w, 0, h, Nat.zero_xor _, rfl⟩ ?_
  rintro j s ⟨v, n, h1, h2, rfl⟩
  by_cases hv : v = 0
  · left
    subst hv
    rw [unc_zero, Nat.xor_zero] at h2
    subst h2
    exact ⟨by simp, by simp⟩
  · right
    have hj : 0 < j := by
      cases j with
      | zero => simp at h1; omega
      | succ j => omega
    have d : gDiv (.int v) (.int 2) = some (.int ((v / 2 : Nat) : Int)) := gDiv_b (by decide) (by decide)
    have x : gXor (.int n) (.int v) = some (.int ((n ^^^ v : Nat) : Int)) := by rw [gXor_i, bitXor_nat]
    have hv' : (0 : Int) < v := by omega
    obtain ⟨i, rfl⟩ : ∃ i, j = i + 1 := ⟨j - 1, by omega⟩
    have hJ : JN (unc k w) i [some (.int ((v / 2 : Nat) : Int)), some (.int ((n ^^^ v : Nat) : Int))] :=
      ⟨v / 2, n ^^^ v, by rw [Nat.pow_succ] at h1; omega, by rw [← h2, unc, Nat.xor_assoc], rfl⟩
    generalize v / 2 = v2 at *
    generalize n ^^^ v = n2 at *
    refine ⟨by simp; omega, hj, ?_⟩
    simp [numberB, d, x]
    exact hJ
theorem number_code {n k : Nat} (h : n < 2 ^ k) (hk : k ≤ 1000) : numberF [.int (codeN n)] = .ok (.int n) := by
  rw [numberF_ok (code_lt h) hk, unc_code k n h]
end VL
/-! # VS8: fields by simp; the ferry -/
namespace VL
open PySem PySem.Spec PyProof.Rows L2
@[simp] theorem endM_nx (me : D) (s : Slots) : endM (.nx (some me :: s)) = .ok .non me := id rfl
@[simp] theorem endM_ret (d me : D) (s : Slots) : endM (.ret d (some me :: s)) = .ok d me := id rfl
@[simp] theorem endM_err (c : Str) (me : D) (s : Slots) : endM (.err c (some me :: s)) = .err c me := id rfl
theorem fnM_eq (N : Nat) (g : Fs) (ds : List D) : fnM N g ds = endM (g (ds.map some ++ List.replicate (N - ds.length) none)) := rfl
@[simp] theorem bFld_eq (c f : Str) (e : Fb) (s : Slots) : bFld c f e s = (e s).bind fun d => Rb.of (gFld c f d) := id rfl
@[simp] theorem sFldP_oF (p : Fpt) (c f : Str) (g : Fb) (s : Slots) : sFldP p c f (oF g) s = (g s).out s fun d s => (p s).outP s fun x => setFld s x.1 x.2.1 c f d x.2.2 := by
  unfold sFldP
  rw [sO_oF]
  cases g s with
  | ok d => rw [Rb.out_ok, Rb.out_ok]; cases p s <;> rfl
  | err c => rfl
  | stuck => rfl
def fldP (c f : Str) (x : Nat × List Nat × D) : Rb (Nat × List Nat × D) := match x.2.2 with
  | .nd (.ins c' fs) _ ds => if c' = c then (match idxF f fs with
    | some n => match ds[n]? with
      | some d => .ok (x.1, x.2.1 ++ [n], d)
      | none => .stuck
    | none => .stuck) else .stuck
  | _ => .stuck
@[simp] theorem pFld_eq (p : Fpt) (c f : Str) (s : Slots) : pFld p c f s = (p s).bind (fldP c f) := id rfl
/-- a method's answer, put to use -/
def methP (i : Nat) (π : List Nat) (s : Slots) (k : D → Slots → Out) : Rm → Out
  | .ok d me => k d (putAt s i π me)
  | .err e me => .err e (putAt s i π me)
  | .stuck => .stuck
@[simp] theorem methP_ok (i : Nat) (π : List Nat) (s : Slots) (k : D → Slots → Out) (d me : D) : methP i π s k (.ok d me) = k d (putAt s i π me) := id rfl
theorem sO_meth {p : Fpt} {c mn : Str} {args : Slots → Rb (List D)} {m : List D → Rm} {s : Slots} {i : Nat} {π : List Nat} {fs : List Str} {ds as : List D} (k : D → Slots → Out) (hp : p s = .ok (i, π, .nd (.ins c fs) true ds)) (hi : idxF mn fs = none) (ha : args s = .ok as) (hs : shrL as = true) :
    sO (oMeth p c mn args m) k s = methP i π s k (m (.nd (.ins c fs) true ds :: as)) := by
  unfold sO oMeth
  rw [hp]
  simp only [hi, ha, hs, and_self, if_true]
  cases m (.nd (.ins c fs) true ds :: as) <;> rfl
theorem bMeth_eq {f : Fb} {c mn : Str} {args : Slots → Rb (List D)} {m : List D → Rb D} {s : Slots} : True := trivial
/-! the ferry -/
def ferFs : List Str := ["room", "places", "put_in", "brought_out", "sign_in", "sign_out", "sight_in", "sight_out", "giver_rang", "taker_rang"]
abbrev ferD (a b c d e f g h i j : D) : D := .nd (.ins "Ferry" ferFs) true [a, b, c, d, e, f, g, h, i, j]
@[simp] theorem gFer_room (m : Bool) (a b c d e f g h i j : D) : gFld "Ferry" "room" (.nd (.ins "Ferry" ferFs) m [a, b, c, d, e, f, g, h, i, j]) = some a := id rfl
@[simp] theorem sFer_room (s : Slots) (n : Nat) (π : List Nat) (x a b c d e f g h i j : D) : VL.setFld s n π "Ferry" "room" x (.nd (.ins "Ferry" ferFs) true [a, b, c, d, e, f, g, h, i, j]) = .nx (VL.putAt s n π (.nd (.ins "Ferry" ferFs) true [x, b, c, d, e, f, g, h, i, j])) := id rfl
@[simp] theorem pFer_room (n : Nat) (π : List Nat) (m : Bool) (a b c d e f g h i j : D) : fldP "Ferry" "room" (n, π, .nd (.ins "Ferry" ferFs) m [a, b, c, d, e, f, g, h, i, j]) = .ok (n, π ++ [0], a) := id rfl
@[simp] theorem gFer_places (m : Bool) (a b c d e f g h i j : D) : gFld "Ferry" "places" (.nd (.ins "Ferry" ferFs) m [a, b, c, d, e, f, g, h, i, j]) = some b := id rfl
@[simp] theorem sFer_places (s : Slots) (n : Nat) (π : List Nat) (x a b c d e f g h i j : D) : VL.setFld s n π "Ferry" "places" x (.nd (.ins "Ferry" ferFs) true [a, b, c, d, e, f, g, h, i, j]) = .nx (VL.putAt s n π (.nd (.ins "Ferry" ferFs) true [a, x, c, d, e, f, g, h, i, j])) := id rfl
@[simp] theorem pFer_places (n : Nat) (π : List Nat) (m : Bool) (a b c d e f g h i j : D) : fldP "Ferry" "places" (n, π, .nd (.ins "Ferry" ferFs) m [a, b, c, d, e, f, g, h, i, j]) = .ok (n, π ++ [1], b) := id rfl
@[simp] theorem gFer_put_in (m : Bool) (a b c d e f g h i j : D) : gFld "Ferry" "put_in" (.nd (.ins "Ferry" ferFs) m [a, b, c, d, e, f, g, h, i, j]) = some c := id rfl
@[simp] theorem sFer_put_in (s : Slots) (n : Nat) (π : List Nat) (x a b c d e f g h i j : D) : VL.setFld s n π "Ferry" "put_in" x (.nd (.ins "Ferry" ferFs) true [a, b, c, d, e, f, g, h, i, j]) = .nx (VL.putAt s n π (.nd (.ins "Ferry" ferFs) true [a, b, x, d, e, f, g, h, i, j])) := id rfl
@[simp] theorem pFer_put_in (n : Nat) (π : List Nat) (m : Bool) (a b c d e f g h i j : D) : fldP "Ferry" "put_in" (n, π, .nd (.ins "Ferry" ferFs) m [a, b, c, d, e, f, g, h, i, j]) = .ok (n, π ++ [2], c) := id rfl
@[simp] theorem gFer_brought_out (m : Bool) (a b c d e f g h i j : D) : gFld "Ferry" "brought_out" (.nd (.ins "Ferry" ferFs) m [a, b, c, d, e, f, g, h, i, j]) = some d := id rfl
@[simp] theorem sFer_brought_out (s : Slots) (n : Nat) (π : List Nat) (x a b c d e f g h i j : D) : VL.setFld s n π "Ferry" "brought_out" x (.nd (.ins "Ferry" ferFs) true [a, b, c, d, e, f, g, h, i, j]) = .nx (VL.putAt s n π (.nd (.ins "Ferry" ferFs) true [a, b, c, x, e, f, g, h, i, j])) := id rfl
@[simp] theorem pFer_brought_out (n : Nat) (π : List Nat) (m : Bool) (a b c d e f g h i j : D) : fldP "Ferry" "brought_out" (n, π, .nd (.ins "Ferry" ferFs) m [a, b, c, d, e, f, g, h, i, j]) = .ok (n, π ++ [3], d) := id rfl
@[simp] theorem gFer_sign_in (m : Bool) (a b c d e f g h i j : D) : gFld "Ferry" "sign_in" (.nd (.ins "Ferry" ferFs) m [a, b, c, d, e, f, g, h, i, j]) = some e := id rfl
@[simp] theorem sFer_sign_in (s : Slots) (n : Nat) (π : List Nat) (x a b c d e f g h i j : D) : VL.setFld s n π "Ferry" "sign_in" x (.nd (.ins "Ferry" ferFs) true [a, b, c, d, e, f, g, h, i, j]) = .nx (VL.putAt s n π (.nd (.ins "Ferry" ferFs) true [a, b, c, d, x, f, g, h, i, j])) := id rfl
@[simp] theorem pFer_sign_in (n : Nat) (π : List Nat) (m : Bool) (a b c d e f g h i j : D) : fldP "Ferry" "sign_in" (n, π, .nd (.ins "Ferry" ferFs) m [a, b, c, d, e, f, g, h, i, j]) = .ok (n, π ++ [4], e) := id rfl
@[simp] theorem gFer_sign_out (m : Bool) (a b c d e f g h i j : D) : gFld "Ferry" "sign_out" (.nd (.ins "Ferry" ferFs) m [a, b, c, d, e, f, g, h, i, j]) = some f := id rfl
@[simp] theorem sFer_sign_out (s : Slots) (n : Nat) (π : List Nat) (x a b c d e f g h i j : D) : VL.setFld s n π "Ferry" "sign_out" x (.nd (.ins "Ferry" ferFs) true [a, b, c, d, e, f, g, h, i, j]) = .nx (VL.putAt s n π (.nd (.ins "Ferry" ferFs) true [a, b, c, d, e, x, g, h, i, j])) := id rfl
@[simp] theorem pFer_sign_out (n : Nat) (π : List Nat) (m : Bool) (a b c d e f g h i j : D) : fldP "Ferry" "sign_out" (n, π, .nd (.ins "Ferry" ferFs) m [a, b, c, d, e, f, g, h, i, j]) = .ok (n, π ++ [5], f) := id rfl
@[simp] theorem gFer_sight_in (m : Bool) (a b c d e f g h i j : D) : gFld "Ferry" "sight_in" (.nd (.ins "Ferry" ferFs) m [a, b, c, d, e, f, g, h, i, j]) = some g := id rfl
@[simp] theorem sFer_sight_in (s : Slots) (n : Nat) (π : List Nat) (x a b c d e f g h i j : D) : VL.setFld s n π "Ferry" "sight_in" x (.nd (.ins "Ferry" ferFs) true [a, b, c, d, e, f, g, h, i, j]) = .nx (VL.putAt s n π (.nd (.ins "Ferry" ferFs) true [a, b, c, d, e, f, x, h, i, j])) := id rfl
@[simp] theorem pFer_sight_in (n : Nat) (π : List Nat) (m : Bool) (a b c d e f g h i j : D) : fldP "Ferry" "sight_in" (n, π, .nd (.ins "Ferry" ferFs) m [a, b, c, d, e, f, g, h, i, j]) = .ok (n, π ++ [6], g) := id rfl
@[simp] theorem gFer_sight_out (m : Bool) (a b c d e f g h i j : D) : gFld "Ferry" "sight_out" (.nd (.ins "Ferry" ferFs) m [a, b, c, d, e, f, g, h, i, j]) = some h := id rfl
@[simp] theorem sFer_sight_out (s : Slots) (n : Nat) (π : List Nat) (x a b c d e f g h i j : D) : VL.setFld s n π "Ferry" "sight_out" x (.nd (.ins "Ferry" ferFs) true [a, b, c, d, e, f, g, h, i, j]) = .nx (VL.putAt s n π (.nd (.ins "Ferry" ferFs) true [a, b, c, d, e, f, g, x, i, j])) := id rfl
@[simp] theorem pFer_sight_out (n : Nat) (π : List Nat) (m : Bool) (a b c d e f g h i j : D) : fldP "Ferry" "sight_out" (n, π, .nd (.ins "Ferry" ferFs) m [a, b, c, d, e, f, g, h, i, j]) = .ok (n, π ++ [7], h) := id rfl
@[simp] theorem gFer_giver_rang (m : Bool) (a b c d e f g h i j : D) : gFld "Ferry" "giver_rang" (.nd (.ins "Ferry" ferFs) m [a, b, c, d, e, f, g, h, i, j]) = some i := id rfl
@[simp] theorem sFer_giver_rang (s : Slots) (n : Nat) (π : List Nat) (x a b c d e f g h i j : D) : VL.setFld s n π "Ferry" "giver_rang" x (.nd (.ins "Ferry" ferFs) true [a, b, c, d, e, f, g, h, i, j]) = .nx (VL.putAt s n π (.nd (.ins "Ferry" ferFs) true [a, b, c, d, e, f, g, h, x, j])) := id rfl
@[simp] theorem pFer_giver_rang (n : Nat) (π : List Nat) (m : Bool) (a b c d e f g h i j : D) : fldP "Ferry" "giver_rang" (n, π, .nd (.ins "Ferry" ferFs) m [a, b, c, d, e, f, g, h, i, j]) = .ok (n, π ++ [8], i) := id rfl
@[simp] theorem gFer_taker_rang (m : Bool) (a b c d e f g h i j : D) : gFld "Ferry" "taker_rang" (.nd (.ins "Ferry" ferFs) m [a, b, c, d, e, f, g, h, i, j]) = some j := id rfl
@[simp] theorem sFer_taker_rang (s : Slots) (n : Nat) (π : List Nat) (x a b c d e f g h i j : D) : VL.setFld s n π "Ferry" "taker_rang" x (.nd (.ins "Ferry" ferFs) true [a, b, c, d, e, f, g, h, i, j]) = .nx (VL.putAt s n π (.nd (.ins "Ferry" ferFs) true [a, b, c, d, e, f, g, h, i, x])) := id rfl
@[simp] theorem pFer_taker_rang (n : Nat) (π : List Nat) (m : Bool) (a b c d e f g h i j : D) : fldP "Ferry" "taker_rang" (n, π, .nd (.ins "Ferry" ferFs) m [a, b, c, d, e, f, g, h, i, j]) = .ok (n, π ++ [9], j) := id rfl
end VL
/-! # VS9: the ferry's rings -/
namespace VL
open PySem PySem.Spec PyProof.Rows L2
def ringGiverF : List D → Rm := fnM 9 (sSeq (sSet 4 (oF (bBin gMod (bBin gSub (bFld "Ferry" "put_in" (bVar 0)) (bCall numberF (bCons (bCall usedF (bCons (bFld "Ferry" "sight_out" (bVar 0)) bNil)) bNil))) (bBin gMulU (bC (.int 2)) (bFld "Ferry" "room" (bVar 0))))))
  (sSeq (sSet 5 (oF (fShr (bAnd (bBin gIsNot (bVar 3) (bC .non)) (bBin gLt (bVar 4) (bFld "Ferry" "room" (bVar 0)))))))
  (sSeq (sFldP (pName 0) "Ferry" "places" (oF (bLc (bFld "Ferry" "places" (bVar 0)) (gtName 8) cYes (bTup (bCons (fShr (bBin gIx (bVar 8) (bC (.int 0)))) (bCons (fShr (bBin gIx (bVar 8) (bC (.int 0)))) bNil))) [8])))
  (sSeq (sIf (tsTru (bVar 5)) (sSeq (sSet 6 (oF (bBin gMod (bFld "Ferry" "put_in" (bVar 0)) (bFld "Ferry" "room" (bVar 0)))))
  (sSeq (sPut (pFld (pName 0) "Ferry" "places") (bVar 6) (oF (bTup (bCons (fShr (bVar 3)) (bCons (fShr (bBin gIx (bBin gIx (bFld "Ferry" "places" (bVar 0)) (bVar 6)) (bC (.int 1)))) bNil)))))
  (sFldP (pName 0) "Ferry" "put_in" (oF (bBin gAddU (bFld "Ferry" "put_in" (bVar 0)) (bC (.int 1))))))) sNext)
  (sSeq (sFldP (pName 0) "Ferry" "sign_in" (oF (bCall shownF (bCons (bFld "Ferry" "sign_in" (bVar 0)) (bCons (bCall codeF (bCons (bBin gMod (bFld "Ferry" "put_in" (bVar 0)) (bBin gMulU (bC (.int 2)) (bFld "Ferry" "room" (bVar 0)))) bNil)) (bCons (bVar 1) bNil))))))
  (sSeq (sSet 7 (oF (bCall sampledF (bCons (bFld "Ferry" "sign_out" (bVar 0)) (bCons (bFld "Ferry" "giver_rang" (bVar 0)) (bCons (bVar 2) bNil))))))
  (sSeq (sFldP (pName 0) "Ferry" "sight_out" (oF (bCall movedF (bCons (bFld "Ferry" "sight_out" (bVar 0)) (bCons (bVar 7) bNil)))))
  (sSeq (sFldP (pName 0) "Ferry" "giver_rang" (oF (fShr (bVar 1))))
  (sRet (oF (bTup (bCons (fShr (bVar 5)) (bCons (fShr (bVar 7)) bNil)))))))))))))
def T4 (t : Nat) : Prop := t = 2 ∨ t = 4 ∨ t = 8 ∨ t = 16
theorem near16 : ∀ t ∈ [2, 4, 8, 16], ∀ r < 16, r < t → ∃ j < 4, codeN r ^^^ codeN ((r + 1) % t) = 2 ^ j := by decide
theorem near {t c : Nat} (ht : T4 t) : ∃ j : Nat, codeN (c % t) ^^^ codeN ((c + 1) % t) = 2 ^ j := by
  have h0 : 0 < t := by unfold T4 at ht; omega
  have hr : c % t < t := Nat.mod_lt _ h0
  have hr2 : c % t < 16 := by unfold T4 at ht; omega
  obtain ⟨j, _, e⟩ := near16 t (by unfold T4 at ht; simp; omega) (c % t) hr2 hr
  refine ⟨j, ?_⟩
  rw [← e, Nat.mod_add_mod]
theorem amid_one {a b ch : Nat} (h : a ^^^ b = 0 ∨ ∃ j, a ^^^ b = 2 ^ j) : amidN a b ch = if ch &&& (b ^^^ a) = 0 then a else b := by
  unfold amidN
  rw [Nat.and_comm ch, Nat.xor_comm b a]
  rcases h with h | ⟨j, h⟩
  · rw [h]; simp
  · rw [h]
    have hp : (2 : Nat) ^ j ≠ 0 := Nat.ne_of_gt (Nat.pow_pos (by decide))
    cases hb : ch.testBit j with
    | false =>
      have e : 2 ^ j &&& ch = 0 := by
        apply Nat.eq_of_testBit_eq
        intro i
        rw [Nat.testBit_and, Nat.testBit_two_pow, Nat.zero_testBit]
        by_cases hi : j = i
        · subst hi; simp [hb]
        · simp [hi]
      rw [e]; simp
    | true =>
      have e : 2 ^ j &&& ch = 2 ^ j := by
        apply Nat.eq_of_testBit_eq
        intro i
        rw [Nat.testBit_and, Nat.testBit_two_pow]
        by_cases hi : j = i
        · subst hi; simp [hb]
        · simp [hi]
      rw [e, if_neg hp, ← h, ← Nat.xor_assoc, Nat.xor_self, Nat.zero_xor]
theorem amid_code {t c1 c0 ch : Nat} (ht : T4 t) (hc : c0 = c1 ∨ c0 = c1 + 1) : amidN (codeN (c1 % t)) (codeN (c0 % t)) ch = if ch &&& (codeN (c0 % t) ^^^ codeN (c1 % t)) = 0 then codeN (c1 % t) else codeN (c0 % t) := by
  apply amid_one
  rcases hc with rfl | rfl
  · left; exact Nat.xor_self _
  · right; exact near ht
/-- places as a list of pairs -/
def plD (pl : List (D × D)) : List D := pl.map fun q => .tup [q.1, q.2]
def flat (d : D) : Prop := ∃ i : Int, d = .int i
/-- the numbers of a ferry; b1, p1: the counts ahead of the last ring of that side; sin, sout: what was seen, the last first -/
structure Fer where
  R : Nat
  pl : List (D × D)
  p : Nat
  p1 : Nat
  b : Nat
  b1 : Nat
  gr : Int
  tr : Int
  sin : List Int
  sout : List Int
def Fer.d (F : Fer) : D := ferD (.int F.R) (.lst true (plD F.pl)) (.int F.p) (.int F.b) (.tup [.int (codeN (F.p % (2 * F.R))), .int (codeN (F.p1 % (2 * F.R))), .int F.gr]) (.tup [.int (codeN (F.b % (2 * F.R))), .int (codeN (F.b1 % (2 * F.R))), .int F.tr]) (.tup (F.sin.map D.int)) (.tup (F.sout.map D.int)) (.int F.gr) (.int F.tr)
def placed (pl : List (D × D)) : List (D × D) := pl.map fun q => (q.1, q.1)
theorem places_comp (pl : List (D × D)) (hp : ∀ q ∈ pl, flat q.1 ∧ flat q.2) (hl : pl.length ≤ 1000) (s : Slots) (hs : bFld "Ferry" "places" (bVar 0) s = .ok (.lst true (plD pl))) (h9 : s.length = 9) :
    bLc (bFld "Ferry" "places" (bVar 0)) (gtName 8) cYes (bTup (bCons (fShr (bBin gIx (bVar 8) (bC (.int 0)))) (bCons (fShr (bBin gIx (bVar 8) (bC (.int 0)))) bNil))) [8] s = .ok (.lst true (plD (placed pl))) := by
  have hz := sizeLine_ge
  have hz2 : (2 : Nat) ≤ sizeLine := by omega
  have sh : shrL (plD pl) = true := shrL_of fun d hd => by
    obtain ⟨q, hq, rfl⟩ := List.mem_map.mp hd
    obtain ⟨⟨i, e1⟩, ⟨j, e2⟩⟩ := hp q hq
    rw [e1, e2]; simp
  have k : compL (gtName 8) cYes (bTup (bCons (fShr (bBin gIx (bVar 8) (bC (.int 0)))) (bCons (fShr (bBin gIx (bVar 8) (bC (.int 0)))) bNil))) [8] (plD pl) s = .ok (pl.map fun q => D.tup [q.1, q.1]) :=
    compL_map (fun q : D × D => D.tup [q.1, q.2]) _ pl fun q hq => by
      obtain ⟨⟨i, e1⟩, ⟨j, e2⟩⟩ := hp q hq
      refine ⟨_, rfl, ?_⟩
      have e8 : bVar 8 (List.set (wipeD s [8]) 8 (some (D.tup [q.1, q.2]))) = .ok (.tup [q.1, q.2]) := bVar_eq (by simp [h9])
      rw [e1, e2] at *
      have e9 : (bBin gIx (bVar 8) (bC (.int 0))) (List.set (wipeD s [8]) 8 (some (D.tup [D.int i, D.int j]))) = .ok (.int i) := by
        rw [bBin_eq, e8]; simp [atI, ixN]
      simp only [bTup_eq, bCons_eq, bNil_eq, fShr_eq, e9, Rb.bind_ok, shr_int, if_true]
      simp [hz2]
  have e : (pl.map fun q => D.tup [q.1, q.1]) = plD (placed pl) := by
    unfold plD placed
    rw [List.map_map]; rfl
  rw [e] at k
  exact bLc_eq hs rfl sh k (by unfold plD placed; simp; omega)
theorem plD_at (pl : List (D × D)) (i : Nat) (h : i < pl.length) : atI (plD pl) (i : Int) = some (.tup [pl[i].1, pl[i].2]) := by
  rw [atI_nat _ _ (by unfold plD; simpa using h)]
  unfold plD
  simp
theorem plD_set (pl : List (D × D)) (i : Nat) (a b : D) : (plD pl).set i (.tup [a, b]) = plD (pl.set i (a, b)) := by
  unfold plD
  rw [List.map_set]
theorem plD_len (pl : List (D × D)) : (plD pl).length = pl.length := by unfold plD; simp
theorem placed_len (pl : List (D × D)) : (placed pl).length = pl.length := by unfold placed; simp
/-- what a side's sample tells -/
def smp (t n n1 : Nat) (mine his : Int) (ch : Nat) : Nat := if mine < his ∧ ch &&& (codeN (n % t) ^^^ codeN (n1 % t)) = 0 then n1 else n
theorem smp_ok {t n n1 ch : Nat} {mine his : Int} (ht : T4 t) (hc : n = n1 ∨ n = n1 + 1) : sampledF [.tup [.int (codeN (n % t)), .int (codeN (n1 % t)), .int his], .int mine, .int ch] = .ok (.int (codeN (smp t n n1 mine his ch % t))) := by
  rw [sampledF_ok, amid_code ht hc]
  unfold smp
  by_cases h : mine < his
  · by_cases h2 : ch &&& (codeN (n % t) ^^^ codeN (n1 % t)) = 0
    · rw [if_pos h, if_pos h2, if_pos ⟨h, h2⟩]
    · rw [if_pos h, if_neg h2, if_neg fun q => h2 q.2]
  · rw [if_neg h, if_neg fun q => h q.1]
def fineB (F : Fer) (w : D) (u : Nat) : Bool := !isN w && decide (((F.p : Int) - ((u % (2 * F.R) : Nat) : Int)) % ((2 * F.R : Nat) : Int) < (F.R : Int))
def Fer.give (F : Fer) (m : Int) (ch : Nat) (w : D) (u : Nat) : Fer :=
  { F with
    pl := if fineB F w u then (placed F.pl).set (F.p % F.R) (w, ((placed F.pl).getD (F.p % F.R) (.non, .non)).2) else placed F.pl
    p := if fineB F w u then F.p + 1 else F.p
    p1 := F.p
    gr := m
    sout := ((codeN (smp (2 * F.R) F.b F.b1 F.gr F.tr ch % (2 * F.R)) : Nat) : Int) :: F.sout.take (F.sout.length - 1) }
theorem ringGiver_ok (F : Fer) (m : Int) (ch : Nat) (w : D) (u : Nat) (ht : T4 (2 * F.R)) (hb : F.b = F.b1 ∨ F.b = F.b1 + 1) (hp : ∀ q ∈ F.pl, flat q.1 ∧ flat q.2) (hl : F.pl.length = F.R)
    (h0 : 0 < F.sout.length) (h3 : F.sout.length ≤ 3) (hu : F.sout[F.sout.length - 1]'(by omega) = ((codeN (u % (2 * F.R)) : Nat) : Int)) (hw : w = .non ∨ flat w) :
    ringGiverF [F.d, .int m, .int ch, w] = .ok (.tup [.bl (fineB F w u), .int (codeN (smp (2 * F.R) F.b F.b1 F.gr F.tr ch % (2 * F.R)))]) (F.give m ch w u).d := by
  obtain ⟨R, pl, p, p1, b, b1, gr, tr, sin, sout⟩ := F
  simp only at ht hb hp hl h0 h3 hu
  have hR0 : 0 < R := by unfold T4 at ht; omega
  have hR1 : R ≤ 8 := by unfold T4 at ht; omega
  have hz := sizeLine_ge
  have hz2 : (2 : Nat) ≤ sizeLine := by omega
  have us := usedF_ok sout h0
  rw [hu] at us
  have no := number_code (n := u % (2 * R)) (k := 60) (Nat.lt_of_lt_of_le (Nat.mod_lt _ (by omega)) (by omega)) (by decide)
  have g2 : gMulU (.int 2) (.int R) = some (.int ((2 * R : Nat) : Int)) := gMul_b (by omega) (by omega) (by omega) (by omega)
  have ma : ∀ z : Int, gMod (.int z) (.int ((2 * R : Nat) : Int)) = some (.int (z % ((2 * R : Nat) : Int))) := fun z => gMod_i (by omega)
  have mR : gMod (.int p) (.int R) = some (.int ((p % R : Nat) : Int)) := gMod_i (by omega)
  have mp : ∀ z : Nat, gMod (.int z) (.int ((2 * R : Nat) : Int)) = some (.int ((z % (2 * R) : Nat) : Int)) := fun z => gMod_i (by omega)
  have fz := frzL_ints sout
  have sm := smp_ok (ch := ch) (mine := gr) (his := tr) ht hb
  have mv := movedF_ok sout ((codeN (smp (2 * R) b b1 gr tr ch % (2 * R)) : Nat) : Int) h0 (by omega)
  have shw : shr w = true := by
    rcases hw with rfl | ⟨i, rfl⟩ <;> rfl
  have hfin : fineB ⟨R, pl, p, p1, b, b1, gr, tr, sin, sout⟩ w u = (!isN w && decide (((p : Int) - ((u % (2 * R) : Nat) : Int)) % ((2 * R : Nat) : Int) < (R : Int))) := rfl
  have pc := fun s hs h9 => places_comp pl hp (by omega) s hs h9
  have hpl : (placed pl).length = R := by rw [placed_len, hl]
  have hat : p % R < (placed pl).length := by rw [hpl]; exact Nat.mod_lt _ hR0
  have pa := plD_at (placed pl) (p % R) hat
  have pg : (placed pl).getD (p % R) (.non, .non) = (placed pl)[p % R] := by rw [List.getD_eq_getElem?_getD, List.getElem?_eq_getElem hat]; rfl
  have hatD : p % R < (plD (placed pl)).length := by rw [plD_len]; exact hat
  have sI : ∀ (s : Slots) (d : D), VL.setItems s 0 [1] (.int ((p % R : Nat) : Int)) d (.nd .lst true (plD (placed pl))) = .nx (VL.putAt s 0 [1] (.nd .lst true ((plD (placed pl)).set (p % R) d))) := fun s d => setItems_lst hatD
  have ps := plD_set (placed pl) (p % R) w ((placed pl)[p % R].2)
  have shq : shr ((placed pl)[p % R].2) = true := by
    obtain ⟨q, hq, e⟩ := List.mem_map.mp (List.getElem_mem hat)
    obtain ⟨⟨i, e1⟩, _⟩ := hp q hq
    rw [← e, e1]; rfl
  have sh1 := shownF_ok (codeN (p % (2 * R))) (codeN (p1 % (2 * R))) gr (codeN ((p + 1) % (2 * R))) m
  have sh0 := shownF_ok (codeN (p % (2 * R))) (codeN (p1 % (2 * R))) gr (codeN (p % (2 * R))) m
  have c1 := codeF_ok ((p + 1) % (2 * R))
  have c0 := codeF_ok (p % (2 * R))
  have mp0 := mp p
  have ma0 := ma ((p : Int) - ((u % (2 * R) : Nat) : Int))
  have at1 : ∀ a b : D, atI [a, b] 1 = some b := fun _ _ => rfl
  have mp1 := mp (p + 1)
  have ec : (p : Int) + 1 = ((p + 1 : Nat) : Int) := by omega
  unfold ringGiverF Fer.d Fer.give
  rw [fnM_eq]
  simp only [hfin, pg]
  have hws : isN w = true ∨ isN w = false := by cases isN w <;> simp
  cases hf : (!isN w && decide (((p : Int) - ((u % (2 * R) : Nat) : Int)) % ((2 * R : Nat) : Int) < (R : Int))) with
  | true =>
    simp only [if_true]
    rw [Bool.and_eq_true] at hf
    have hw0 : isN w = false := by have := hf.1; revert this; cases isN w <;> simp
    have hlt := of_decide_eq_true hf.2
    clear hf
    clear ma
    generalize codeN ((p + 1) % (2 * R)) = k1 at *
    generalize codeN (p % (2 * R)) = k0 at *
    generalize codeN (p1 % (2 * R)) = k2 at *
    generalize codeN (smp (2 * R) b b1 gr tr ch % (2 * R)) = kd at *
    generalize codeN (u % (2 * R)) = ku at *
    generalize u % (2 * R) = u2 at *
    generalize (p + 1) % (2 * R) = y1 at *
    generalize p + 1 = pp at *
    generalize p % (2 * R) = y0 at *
    generalize ((2 * R : Nat) : Int) = tt at *
    generalize (placed pl)[p % R] = q at *
    generalize p % R = at_ at *
    generalize ((p : Int) - (u2 : Int)) % tt = ah at *
    generalize codeN (b % (2 * R)) = kb at *
    generalize codeN (b1 % (2 * R)) = kb1 at *
    generalize plD ((placed pl).set at_ (w, q.2)) = P2 at *
    generalize plD (placed pl) = P1 at *
    generalize plD pl = P0 at *
    generalize List.map D.int ((kd : Int) :: List.take (sout.length - 1) sout) = so2 at *
    generalize List.map D.int sout = so at *
    generalize List.map D.int sin = si at *
    simp only [List.map_cons, List.map_nil, List.length_cons, List.length_nil, List.cons_append, List.nil_append, List.replicate]
    simp (config := { maxSteps := 400000 }) [us, no, g2, ma0, mR, mp0, mp1, fz, sm, mv, shw, hw0, hlt, at1, pc, pa, sI, ps, shq, sh1, c1, ec, hz2]
  | false =>
    simp only [if_false, Bool.false_eq_true]
    clear ma sh1 c1 mp1 ec pa ps pg
    generalize codeN (p % (2 * R)) = k0 at *
    generalize codeN (p1 % (2 * R)) = k2 at *
    generalize codeN (smp (2 * R) b b1 gr tr ch % (2 * R)) = kd at *
    generalize codeN (u % (2 * R)) = ku at *
    generalize u % (2 * R) = u2 at *
    generalize p % (2 * R) = y0 at *
    generalize ((2 * R : Nat) : Int) = tt at *
    generalize ((p : Int) - (u2 : Int)) % tt = ah at *
    generalize codeN (b % (2 * R)) = kb at *
    generalize codeN (b1 % (2 * R)) = kb1 at *
    generalize plD (placed pl) = P1 at *
    generalize plD pl = P0 at *
    generalize List.map D.int ((kd : Int) :: List.take (sout.length - 1) sout) = so2 at *
    generalize List.map D.int sout = so at *
    generalize List.map D.int sin = si at *
    simp only [List.map_cons, List.map_nil, List.length_cons, List.length_nil, List.cons_append, List.nil_append, List.replicate]
    rcases hws with hw1 | hw1
    · simp (config := { maxSteps := 400000 }) [us, no, g2, ma0, mp0, fz, sm, mv, hw1, pc, sh0, c0, hz2]
    · rw [hw1] at hf
      have hlt : ¬ ah < (R : Int) := by simpa using hf
      simp (config := { maxSteps := 400000 }) [us, no, g2, ma0, mp0, fz, sm, mv, hw1, hlt, pc, sh0, c0, hz2]
def ringTakerF : List D → Rm := fnM 7 (sSeq (sSet 4 (oF (bC .non)))
  (sSeq (sIf (fAnd (tsTru (bVar 3)) (tsB (bBin gNe (bCall numberF (bCons (bCall usedF (bCons (bFld "Ferry" "sight_in" (bVar 0)) bNil)) bNil)) (bBin gMod (bFld "Ferry" "brought_out" (bVar 0)) (bBin gMulU (bC (.int 2)) (bFld "Ferry" "room" (bVar 0))))))) (sSeq (sTgt (gtTup 2 (gtCons (gtName 4) (gtCons (gtName 5) gtNil))) (oF (fShr (bBin gIx (bFld "Ferry" "places" (bVar 0)) (bBin gMod (bFld "Ferry" "brought_out" (bVar 0)) (bFld "Ferry" "room" (bVar 0)))))))
  (sSeq (sIf (tsB (bBin gGt (bFld "Ferry" "giver_rang" (bVar 0)) (bFld "Ferry" "taker_rang" (bVar 0)))) (sSet 4 (oF (bCall amidF (bCons (bVar 5) (bCons (bVar 4) (bCons (bVar 2) bNil)))))) sNext)
  (sFldP (pName 0) "Ferry" "brought_out" (oF (bBin gAddU (bFld "Ferry" "brought_out" (bVar 0)) (bC (.int 1))))))) sNext)
  (sSeq (sFldP (pName 0) "Ferry" "sign_out" (oF (bCall shownF (bCons (bFld "Ferry" "sign_out" (bVar 0)) (bCons (bCall codeF (bCons (bBin gMod (bFld "Ferry" "brought_out" (bVar 0)) (bBin gMulU (bC (.int 2)) (bFld "Ferry" "room" (bVar 0)))) bNil)) (bCons (bVar 1) bNil))))))
  (sSeq (sSet 6 (oF (bCall sampledF (bCons (bFld "Ferry" "sign_in" (bVar 0)) (bCons (bFld "Ferry" "taker_rang" (bVar 0)) (bCons (bVar 2) bNil))))))
  (sSeq (sFldP (pName 0) "Ferry" "sight_in" (oF (bCall movedF (bCons (bFld "Ferry" "sight_in" (bVar 0)) (bCons (bVar 6) bNil)))))
  (sSeq (sFldP (pName 0) "Ferry" "taker_rang" (oF (fShr (bVar 1))))
  (sRet (oF (bTup (bCons (fShr (bVar 4)) (bCons (fShr (bVar 6)) bNil)))))))))))
def tookB (F : Fer) (wi : Bool) (u : Nat) : Bool := wi && !decide (u % (2 * F.R) = F.b % (2 * F.R))
def Fer.take (F : Fer) (m : Int) (ch : Nat) (wi : Bool) (u : Nat) : Fer :=
  { F with
    b := if tookB F wi u then F.b + 1 else F.b
    b1 := F.b
    tr := m
    sin := ((codeN (smp (2 * F.R) F.p F.p1 F.tr F.gr ch % (2 * F.R)) : Nat) : Int) :: F.sin.take (F.sin.length - 1) }
theorem ringTaker_ok (F : Fer) (m : Int) (ch : Nat) (wi : Bool) (u x y : Nat) (ht : T4 (2 * F.R)) (hb : F.p = F.p1 ∨ F.p = F.p1 + 1) (hl : F.pl.length = F.R) (hq : F.pl[F.b % F.R]? = some (.int x, .int y))
    (h0 : 0 < F.sin.length) (h3 : F.sin.length ≤ 3) (hu : F.sin[F.sin.length - 1]'(by omega) = ((codeN (u % (2 * F.R)) : Nat) : Int)) :
    ringTakerF [F.d, .int m, .int ch, .bl wi] = .ok (.tup [if tookB F wi u then .int ((if F.tr < F.gr then amidN y x ch else x : Nat) : Int) else .non, .int (codeN (smp (2 * F.R) F.p F.p1 F.tr F.gr ch % (2 * F.R)))]) (F.take m ch wi u).d := by
  obtain ⟨R, pl, p, p1, b, b1, gr, tr, sin, sout⟩ := F
  simp only at ht hb hl hq h0 h3 hu
  have hR0 : 0 < R := by unfold T4 at ht; omega
  have hR1 : R ≤ 8 := by unfold T4 at ht; omega
  have hz := sizeLine_ge
  have hz2 : (2 : Nat) ≤ sizeLine := by omega
  have us := usedF_ok sin h0
  rw [hu] at us
  have no := number_code (n := u % (2 * R)) (k := 60) (Nat.lt_of_lt_of_le (Nat.mod_lt _ (by omega)) (by omega)) (by decide)
  have g2 : gMulU (.int 2) (.int R) = some (.int ((2 * R : Nat) : Int)) := gMul_b (by omega) (by omega) (by omega) (by omega)
  have mR : gMod (.int b) (.int R) = some (.int ((b % R : Nat) : Int)) := gMod_i (by omega)
  have mp : ∀ z : Nat, gMod (.int z) (.int ((2 * R : Nat) : Int)) = some (.int ((z % (2 * R) : Nat) : Int)) := fun z => gMod_i (by omega)
  have fz := frzL_ints sin
  have sm := smp_ok (ch := ch) (mine := tr) (his := gr) ht hb
  have mv := movedF_ok sin ((codeN (smp (2 * R) p p1 tr gr ch % (2 * R)) : Nat) : Int) h0 (by omega)
  have hat : b % R < pl.length := by rw [hl]; exact Nat.mod_lt _ hR0
  have pa := plD_at pl (b % R) hat
  have hq' : pl[b % R] = (.int x, .int y) := by
    rw [List.getElem?_eq_getElem hat] at hq
    exact Option.some.inj hq
  rw [hq'] at pa
  have am := amidF_ok y x ch
  have sh1 := shownF_ok (codeN (b % (2 * R))) (codeN (b1 % (2 * R))) tr (codeN ((b + 1) % (2 * R))) m
  have sh0 := shownF_ok (codeN (b % (2 * R))) (codeN (b1 % (2 * R))) tr (codeN (b % (2 * R))) m
  have c1 := codeF_ok ((b + 1) % (2 * R))
  have c0 := codeF_ok (b % (2 * R))
  have mp0 := mp b
  have mp1 := mp (b + 1)
  have ec : (b : Int) + 1 = ((b + 1 : Nat) : Int) := by omega
  have ht' : tookB ⟨R, pl, p, p1, b, b1, gr, tr, sin, sout⟩ wi u = (wi && !decide (u % (2 * R) = b % (2 * R))) := rfl
  have eif : ∀ c : Bool, codeN ((if c = true then b + 1 else b) % (2 * R)) = if c = true then codeN ((b + 1) % (2 * R)) else codeN (b % (2 * R)) := by intro c; cases c <;> rfl
  unfold ringTakerF Fer.d Fer.take
  rw [fnM_eq]
  simp only [ht', eif]
  clear eif
  clear hu hq hq' hat ht' ht hl hb h3
  generalize codeN ((b + 1) % (2 * R)) = k1 at *
  generalize codeN (b % (2 * R)) = k0 at *
  generalize codeN (b1 % (2 * R)) = k2 at *
  generalize codeN (smp (2 * R) p p1 tr gr ch % (2 * R)) = kd at *
  generalize codeN (u % (2 * R)) = ku at *
  generalize codeN (p % (2 * R)) = kb at *
  generalize codeN (p1 % (2 * R)) = kb1 at *
  generalize u % (2 * R) = u2 at *
  generalize (b + 1) % (2 * R) = y1 at *
  generalize b + 1 = bb at *
  generalize b % (2 * R) = y0 at *
  generalize b % R = at_ at *
  generalize ((2 * R : Nat) : Int) = tt at *
  generalize amidN y x ch = av at *
  generalize plD pl = P0 at *
  generalize List.map D.int ((kd : Int) :: List.take (sin.length - 1) sin) = si2 at *
  generalize List.map D.int sin = si at *
  generalize List.map D.int sout = so at *
  simp only [List.map_cons, List.map_nil, List.length_cons, List.length_nil, List.cons_append, List.nil_append, List.replicate]
  cases wi with
  | false => simp (config := { maxSteps := 400000 }) [us, no, g2, mp0, fz, sm, mv, sh0, c0, hz2]
  | true =>
    by_cases hne : u2 = y0
    · simp (config := { maxSteps := 400000 }) [us, no, g2, mp0, fz, sm, mv, sh0, c0, hz2, hne]
    · have hne' : ¬ ((u2 : Int) = (y0 : Int)) := by omega
      by_cases hg : tr < gr
      · simp (config := { maxSteps := 400000 }) [us, no, g2, mR, mp0, mp1, fz, sm, mv, sh1, c1, ec, pa, am, hz2, hne, hne', hg]
      · simp (config := { maxSteps := 400000 }) [us, no, g2, mR, mp0, mp1, fz, sm, mv, sh1, c1, ec, pa, am, hz2, hne, hne', hg]
end VL
/-! # VS10: a ferry made, its counts -/
namespace VL
open PySem PySem.Spec PyProof.Rows L2
@[simp] theorem iFer_0 (s : Slots) (k : Nat) (π : List Nat) (a : D) : VL.setFld s k π "Ferry" "room" a (.nd (.ins "Ferry" []) true []) = .nx (VL.putAt s k π (.nd (.ins "Ferry" ["room"]) true [a])) := id rfl
@[simp] theorem iFer_1 (s : Slots) (k : Nat) (π : List Nat) (a b : D) : VL.setFld s k π "Ferry" "places" b (.nd (.ins "Ferry" ["room"]) true [a]) = .nx (VL.putAt s k π (.nd (.ins "Ferry" ["room", "places"]) true [a, b])) := id rfl
@[simp] theorem iFer_2 (s : Slots) (k : Nat) (π : List Nat) (a b c : D) : VL.setFld s k π "Ferry" "put_in" c (.nd (.ins "Ferry" ["room", "places"]) true [a, b]) = .nx (VL.putAt s k π (.nd (.ins "Ferry" ["room", "places", "put_in"]) true [a, b, c])) := id rfl
@[simp] theorem iFer_3 (s : Slots) (k : Nat) (π : List Nat) (a b c d : D) : VL.setFld s k π "Ferry" "brought_out" d (.nd (.ins "Ferry" ["room", "places", "put_in"]) true [a, b, c]) = .nx (VL.putAt s k π (.nd (.ins "Ferry" ["room", "places", "put_in", "brought_out"]) true [a, b, c, d])) := id rfl
@[simp] theorem iFer_4 (s : Slots) (k : Nat) (π : List Nat) (a b c d e : D) : VL.setFld s k π "Ferry" "sign_in" e (.nd (.ins "Ferry" ["room", "places", "put_in", "brought_out"]) true [a, b, c, d]) = .nx (VL.putAt s k π (.nd (.ins "Ferry" ["room", "places", "put_in", "brought_out", "sign_in"]) true [a, b, c, d, e])) := id rfl
@[simp] theorem iFer_5 (s : Slots) (k : Nat) (π : List Nat) (a b c d e f : D) : VL.setFld s k π "Ferry" "sign_out" f (.nd (.ins "Ferry" ["room", "places", "put_in", "brought_out", "sign_in"]) true [a, b, c, d, e]) = .nx (VL.putAt s k π (.nd (.ins "Ferry" ["room", "places", "put_in", "brought_out", "sign_in", "sign_out"]) true [a, b, c, d, e, f])) := id rfl
@[simp] theorem iFer_6 (s : Slots) (k : Nat) (π : List Nat) (a b c d e f g : D) : VL.setFld s k π "Ferry" "sight_in" g (.nd (.ins "Ferry" ["room", "places", "put_in", "brought_out", "sign_in", "sign_out"]) true [a, b, c, d, e, f]) = .nx (VL.putAt s k π (.nd (.ins "Ferry" ["room", "places", "put_in", "brought_out", "sign_in", "sign_out", "sight_in"]) true [a, b, c, d, e, f, g])) := id rfl
@[simp] theorem iFer_7 (s : Slots) (k : Nat) (π : List Nat) (a b c d e f g h : D) : VL.setFld s k π "Ferry" "sight_out" h (.nd (.ins "Ferry" ["room", "places", "put_in", "brought_out", "sign_in", "sign_out", "sight_in"]) true [a, b, c, d, e, f, g]) = .nx (VL.putAt s k π (.nd (.ins "Ferry" ["room", "places", "put_in", "brought_out", "sign_in", "sign_out", "sight_in", "sight_out"]) true [a, b, c, d, e, f, g, h])) := id rfl
@[simp] theorem iFer_8 (s : Slots) (k : Nat) (π : List Nat) (a b c d e f g h i : D) : VL.setFld s k π "Ferry" "giver_rang" i (.nd (.ins "Ferry" ["room", "places", "put_in", "brought_out", "sign_in", "sign_out", "sight_in", "sight_out"]) true [a, b, c, d, e, f, g, h]) = .nx (VL.putAt s k π (.nd (.ins "Ferry" ["room", "places", "put_in", "brought_out", "sign_in", "sign_out", "sight_in", "sight_out", "giver_rang"]) true [a, b, c, d, e, f, g, h, i])) := id rfl
@[simp] theorem iFer_9 (s : Slots) (k : Nat) (π : List Nat) (a b c d e f g h i j : D) : VL.setFld s k π "Ferry" "taker_rang" j (.nd (.ins "Ferry" ["room", "places", "put_in", "brought_out", "sign_in", "sign_out", "sight_in", "sight_out", "giver_rang"]) true [a, b, c, d, e, f, g, h, i]) = .nx (VL.putAt s k π (.nd (.ins "Ferry" ["room", "places", "put_in", "brought_out", "sign_in", "sign_out", "sight_in", "sight_out", "giver_rang", "taker_rang"]) true [a, b, c, d, e, f, g, h, i, j])) := id rfl
@[simp] theorem iFer_room (a : D) : gFld "Ferry" "room" (.nd (.ins "Ferry" ["room"]) true [a]) = some a := id rfl
def ferryInitF : List D → Rm := fnM 4 (sSeq (sFldP (pName 0) "Ferry" "room" (oF (bBin gShl (bC (.int 1)) (bVar 1))))
  (sSeq (sFldP (pName 0) "Ferry" "places" (oF (bLcR1 (bFld "Ferry" "room" (bVar 0)) (gtName 3) cYes (bTup (bCons (bC (.int 0)) (bCons (bC (.int 0)) bNil))) [3])))
  (sSeq (sFldP (pName 0) "Ferry" "put_in" (oF (bC (.int 0))))
  (sSeq (sFldP (pName 0) "Ferry" "brought_out" (oF (bC (.int 0))))
  (sSeq (sFldP (pName 0) "Ferry" "sign_in" (oF (bCall firstSignF (bCons (bCall codeF (bCons (bC (.int 0)) bNil)) bNil))))
  (sSeq (sFldP (pName 0) "Ferry" "sign_out" (oF (bCall firstSignF (bCons (bCall codeF (bCons (bC (.int 0)) bNil)) bNil))))
  (sSeq (sFldP (pName 0) "Ferry" "sight_in" (oF (bCall firstSightF (bCons (bCall codeF (bCons (bC (.int 0)) bNil)) (bCons (bVar 2) bNil)))))
  (sSeq (sFldP (pName 0) "Ferry" "sight_out" (oF (bCall firstSightF (bCons (bCall codeF (bCons (bC (.int 0)) bNil)) (bCons (bVar 2) bNil)))))
  (sSeq (sFldP (pName 0) "Ferry" "giver_rang" (oF (bUn gNeg (bC (.int 1)))))
  (sFldP (pName 0) "Ferry" "taker_rang" (oF (bUn gNeg (bC (.int 1))))))))))))))
def ferryCountsF : List D → Rb D := fnD 1 (sRet (oF (bTup (bCons (fShr (bFld "Ferry" "put_in" (bVar 0))) (bCons (fShr (bFld "Ferry" "brought_out" (bVar 0))) bNil)))))
def Fer.made (R st : Nat) : Fer := ⟨R, List.replicate R (.int 0, .int 0), 0, 0, 0, 0, -1, -1, List.replicate st 0, List.replicate st 0⟩
theorem ferryInit_ok (k st : Nat) (hk : k ≤ 3) (hs : st ≤ 3) : ferryInitF [.nd (.ins "Ferry" []) true [], .int k, .int st] = .ok .non (Fer.made (2 ^ k) st).d := by
  have hz := sizeLine_ge
  have hz2 : (2 : Nat) ≤ sizeLine := by omega
  have sh : gShl (.int 1) (.int k) = some (.int ((2 ^ k : Nat) : Int)) := by
    rw [gShl_one (by omega) (by omega), Int.toNat_natCast, Int.natCast_pow]; rfl
  have hp : (2 : Nat) ^ k ≤ 2 ^ 3 := Nat.pow_le_pow_right (by decide) hk
  have c00 : codeF [.int 0] = .ok (.int 0) := codeF_ok 0
  have fg := firstSignF_ok 0
  have fs := firstSightF_ok 0 st (by omega)
  have hc : ∀ n : Nat, codeN (0 % n) = 0 := fun n => by rw [Nat.zero_mod]; rfl
  have cmp : ∀ s : Slots, s.length = 4 → bFld "Ferry" "room" (bVar 0) s = .ok (.int ((2 ^ k : Nat) : Int)) → bLcR1 (bFld "Ferry" "room" (bVar 0)) (gtName 3) cYes (bTup (bCons (bC (.int 0)) (bCons (bC (.int 0)) bNil))) [3] s = .ok (.lst true (plD (List.replicate (2 ^ k) (.int 0, .int 0)))) := fun s h4 hs => by
    have kk : compL (gtName 3) cYes (bTup (bCons (bC (.int 0)) (bCons (bC (.int 0)) bNil))) [3] ((List.range (2 ^ k)).map fun i => .int (i : Nat)) s = .ok ((List.range (2 ^ k)).map fun _ => D.tup [.int 0, .int 0]) :=
      compL_map _ _ _ fun x hx => ⟨_, rfl, by simp [hz2]⟩
    have e := bLcR1_eq hs (by omega) kk (by simp; omega)
    rw [e, List.map_const', List.length_range]
    unfold plD
    rw [List.map_replicate]
  unfold ferryInitF Fer.d Fer.made
  rw [fnM_eq]
  simp only [hc]
  generalize 2 ^ k = R at *
  generalize plD (List.replicate R (D.int 0, D.int 0)) = P0 at *
  generalize (List.replicate st (0 : Int)).map D.int = si at *
  simp [sh, cmp, c00, fg, fs]
  rfl
theorem ferryCounts_ok (F : Fer) : ferryCountsF [F.d] = .ok (.tup [.int F.p, .int F.b]) := by
  have hz := sizeLine_ge
  have hz2 : (2 : Nat) ≤ sizeLine := by omega
  unfold ferryCountsF Fer.d
  rw [fnD_eq]
  simp [hz2]
end VL
/-! # VS11: what holds of a ferry, ring by ring -/
namespace VL
open PySem PySem.Spec PyProof.Rows L2
def sgt (t : Nat) (r : List Nat) : List Int := r.map fun n => ((codeN (n % t) : Nat) : Int)
/-- g: the words given; ri, ro: what each side has seen of the other's count, the last first; m: the last moment -/
structure FI (F : Fer) (st : Nat) (g : List Nat) (ri ro : List Nat) (m : Int) : Prop where
  t4 : T4 (2 * F.R)
  hl : F.pl.length = F.R
  len : g.length = F.p
  hp : F.p = F.p1 ∨ F.p = F.p1 + 1
  hb : F.b = F.b1 ∨ F.b = F.b1 + 1
  si : F.sin = sgt (2 * F.R) ri
  so : F.sout = sgt (2 * F.R) ro
  li : ri.length = st
  lo : ro.length = st
  st1 : 1 ≤ st
  st3 : st ≤ 3
  ui : ∀ x ∈ ri, F.b ≤ x ∧ x ≤ F.p
  uo : ∀ x ∈ ro, x ≤ F.b ∧ F.p ≤ x + F.R
  i1 : F.tr < F.gr → ∀ x ∈ ri, x ≤ F.p1
  o1 : F.gr < F.tr → ∀ x ∈ ro, x ≤ F.b1
  gm : F.gr ≤ m
  tm : F.tr ≤ m
  pls : ∀ j, (h : j < g.length) → F.p ≤ j + F.R → ∃ y : Nat, F.pl[j % F.R]? = some (.int (g[j] : Nat), .int y) ∧ (y = g[j] ∨ (j + 1 = F.p ∧ F.p1 + 1 = F.p))
  fl : ∀ q ∈ F.pl, ∃ a c : Nat, q = (.int a, .int c)
  mi : ri.Pairwise (· ≥ ·)
  mo : ro.Pairwise (· ≥ ·)
theorem sgt_last {t : Nat} {r : List Nat} (h : 0 < r.length) (hh : (sgt t r).length - 1 < (sgt t r).length) : (sgt t r)[(sgt t r).length - 1] = ((codeN (r[r.length - 1] % t) : Nat) : Int) := by
  unfold sgt
  simp
theorem sgt_next (t d : Nat) (r : List Nat) : (((codeN (d % t) : Nat) : Int) :: (sgt t r).take ((sgt t r).length - 1)) = sgt t (d :: r.take (r.length - 1)) := by
  unfold sgt
  simp [List.map_take]
theorem smp_le {t n n1 ch : Nat} {mine his : Int} (h : n = n1 ∨ n = n1 + 1) : smp t n n1 mine his ch ≤ n ∧ n ≤ smp t n n1 mine his ch + 1 := by
  unfold smp
  split <;> omega
theorem smp_ge {t n n1 ch x : Nat} {mine his : Int} (h : x ≤ n) (h1 : mine < his → x ≤ n1) : x ≤ smp t n n1 mine his ch := by
  unfold smp
  split
  · rename_i c; exact h1 c.1
  · exact h
theorem last_le {r : List Nat} (h : r.Pairwise (· ≥ ·)) (h0 : 0 < r.length) : ∀ x ∈ r, r[r.length - 1] ≤ x := by
  intro x hx
  obtain ⟨i, hi, rfl⟩ := List.mem_iff_getElem.mp hx
  by_cases e : i = r.length - 1
  · simp only [e]; exact Nat.le_refl _
  · exact List.pairwise_iff_getElem.mp h i (r.length - 1) hi (by omega) (by omega)
theorem mod_ne {a b n : Nat} (h1 : a < b) (h2 : b < a + n) : a % n ≠ b % n := by
  intro e
  have h := Nat.sub_mod_eq_zero_of_mod_eq e.symm
  have := Nat.le_of_dvd (by omega) (Nat.dvd_of_mod_eq_zero h)
  omega
theorem FI.fine {F : Fer} {st : Nat} {g ri ro : List Nat} {m : Int} (I : FI F st g ri ro m) (w : D) {u : Nat} (hu : u ∈ ro) : fineB F w u = (!isN w && decide (F.p < u + F.R)) := by
  obtain ⟨h1, h2⟩ := I.uo u hu
  have t4 := I.t4
  have hb := I.hb
  unfold fineB
  congr 1
  apply decide_eq_decide.mpr
  have hR : 0 < F.R := by unfold T4 at t4; omega
  have hub : u ≤ F.p := by
    -- what was seen of b is no more than b, and b no more than any count seen of p
    have := I.ui
    have hl := I.li
    have hs := I.st1
    have : 0 < ri.length := by omega
    have z := I.ui ri[0] (List.getElem_mem this)
    omega
  have e : (((F.p : Int) - ((u % (2 * F.R) : Nat) : Int)) % ((2 * F.R : Nat) : Int)) = ((F.p - u : Nat) : Int) := by
    have h3 : ((u % (2 * F.R) : Nat) : Int) = (u : Int) % ((2 * F.R : Nat) : Int) := Int.natCast_emod u (2 * F.R)
    rw [h3, Int.sub_emod_emod, show (F.p : Int) - (u : Int) = ((F.p - u : Nat) : Int) from by omega]
    exact Int.emod_eq_of_lt (by omega) (by omega)
  rw [e]
  omega
theorem placed_at {pl : List (D × D)} {i : Nat} {a c : D} (h : pl[i]? = some (a, c)) : (placed pl)[i]? = some (a, a) := by
  unfold placed
  rw [List.getElem?_map, h]; rfl
theorem placed_flat {pl : List (D × D)} (h : ∀ q ∈ pl, ∃ a c : Nat, q = (.int a, .int c)) : ∀ q ∈ placed pl, ∃ a c : Nat, q = (.int a, .int c) := by
  intro q hq
  unfold placed at hq
  obtain ⟨q', h1, rfl⟩ := List.mem_map.mp hq
  obtain ⟨a, c, rfl⟩ := h q' h1
  exact ⟨a, a, rfl⟩
theorem FI.give {F : Fer} {st : Nat} {g ri ro : List Nat} {m m' : Int} (I : FI F st g ri ro m) (hm : m < m') (ch : Nat) (w : D) {u : Nat} (hu : u = ro[ro.length - 1]'(by have := I.lo; have := I.st1; omega)) (wn : Nat) (hw : w = .non ∨ w = .int wn) :
    FI (F.give m' ch w u) st (if fineB F w u then g ++ [wn] else g) ri (smp (2 * F.R) F.b F.b1 F.gr F.tr ch :: ro.take (ro.length - 1)) m' := by
  have hlo := I.lo
  have hs1 := I.st1
  have hum : u ∈ ro := by rw [hu]; exact List.getElem_mem _
  have hfin := I.fine w hum
  have hle := last_le I.mo (by omega)
  rw [← hu] at hle
  have hsb := smp_le (t := 2 * F.R) (ch := ch) (mine := F.gr) (his := F.tr) I.hb
  have hsg : ∀ x ∈ ro, x ≤ smp (2 * F.R) F.b F.b1 F.gr F.tr ch := fun x hx => smp_ge (I.uo x hx).1 fun h => I.o1 h x hx
  have hR : 0 < F.R := by have := I.t4; unfold T4 at this; omega
  have hgm := I.gm
  have htm := I.tm
  have hp := I.hp
  have hlen := I.len
  have hl := I.hl
  have hsub : ∀ x ∈ ro.take (ro.length - 1), x ∈ ro := fun x hx => List.mem_of_mem_take hx
  have mo' : (smp (2 * F.R) F.b F.b1 F.gr F.tr ch :: ro.take (ro.length - 1)).Pairwise (· ≥ ·) :=
    List.pairwise_cons.mpr ⟨fun x hx => hsg x (hsub x hx), I.mo.sublist (List.take_sublist _ _)⟩
  have so' : ((codeN (smp (2 * F.R) F.b F.b1 F.gr F.tr ch % (2 * F.R)) : Nat) : Int) :: F.sout.take (F.sout.length - 1) = sgt (2 * F.R) (smp (2 * F.R) F.b F.b1 F.gr F.tr ch :: ro.take (ro.length - 1)) := by
    rw [I.so]; exact sgt_next _ _ _
  have lo' : (smp (2 * F.R) F.b F.b1 F.gr F.tr ch :: ro.take (ro.length - 1)).length = st := by simp; omega
  obtain ⟨d, hdd⟩ : ∃ d, smp (2 * F.R) F.b F.b1 F.gr F.tr ch = d := ⟨_, rfl⟩
  simp only [hdd] at hsb hsg so' lo' mo' ⊢
  have uo' : ∀ x ∈ d :: ro.take (ro.length - 1), x ≤ F.b ∧ u ≤ x := fun x hx => by
    rcases List.mem_cons.mp hx with rfl | hx
    · exact ⟨hsb.1, hsg u hum⟩
    · exact ⟨(I.uo x (hsub x hx)).1, hle x (hsub x hx)⟩
  cases hf : fineB F w u with
  | false =>
    unfold Fer.give
    simp only [hf, hdd, if_false, Bool.false_eq_true]
    refine ⟨I.t4, by rw [placed_len]; exact hl, hlen, .inl rfl, I.hb, I.si, so', I.li, lo', hs1, I.st3, I.ui, fun x hx => ⟨(uo' x hx).1, ?_⟩, fun _ x hx => (I.ui x hx).2, fun h => ?_, Int.le_refl _, Int.le_of_lt (Int.lt_of_le_of_lt htm hm), fun j hj hjp => ?_, placed_flat I.fl, I.mi, mo'⟩
    · have := (I.uo u hum).2
      have := (uo' x hx).2
      show F.p ≤ x + F.R
      omega
    · exact absurd (show m' < F.tr from h) (by omega)
    · obtain ⟨y, e, _⟩ := I.pls j hj hjp
      exact ⟨g[j], placed_at e, .inl rfl⟩
  | true =>
    rw [hfin, Bool.and_eq_true] at hf
    have hlt := of_decide_eq_true hf.2
    have hwn : w = .int wn := by
      rcases hw with rfl | h
      · simp at hf
      · exact h
    have hfb : fineB F w u = true := by rw [hfin, Bool.and_eq_true]; exact hf
    unfold Fer.give
    simp only [hfb, hdd, if_true]
    have hat : F.p % F.R < (placed F.pl).length := by rw [placed_len, hl]; exact Nat.mod_lt _ hR
    refine ⟨I.t4, by rw [List.length_set, placed_len]; exact hl, by simp [hlen], .inr rfl, I.hb, I.si, so', I.li, lo', hs1, I.st3, fun x hx => ⟨(I.ui x hx).1, Nat.le_succ_of_le (I.ui x hx).2⟩, fun x hx => ⟨(uo' x hx).1, ?_⟩, fun _ x hx => (I.ui x hx).2, fun h => ?_, Int.le_refl _, Int.le_of_lt (Int.lt_of_le_of_lt htm hm), fun j hj hjp => ?_, fun q hq => ?_, I.mi, mo'⟩
    · have := (uo' x hx).2
      show F.p + 1 ≤ x + F.R
      omega
    · exact absurd (show m' < F.tr from h) (by omega)
    · by_cases hjp2 : j = F.p
      · subst hjp2
        have hg : (g ++ [wn])[F.p]'hj = wn := by
          rw [List.getElem_append_right (by omega)]
          simp [hlen]
        obtain ⟨a, c, eq⟩ := placed_flat I.fl _ (List.getElem_mem hat)
        have eg : (placed F.pl).getD (F.p % F.R) (.non, .non) = (.int a, .int c) := by
          rw [List.getD_eq_getElem?_getD, List.getElem?_eq_getElem hat, eq]; rfl
        refine ⟨c, ?_, .inr ⟨rfl, rfl⟩⟩
        rw [List.getElem?_set_self hat, hg, hwn, eg]
      · have hjg : j < g.length := by
          rw [List.length_append, List.length_singleton] at hj
          omega
        have hjR : F.p + 1 ≤ j + F.R := hjp
        have hg : (g ++ [wn])[j]'hj = g[j] := List.getElem_append_left hjg
        obtain ⟨y, e, _⟩ := I.pls j hjg (by omega)
        have hne : j % F.R ≠ F.p % F.R := mod_ne (by omega) (by omega)
        refine ⟨g[j], ?_, .inl hg.symm⟩
        rw [List.getElem?_set_ne (fun h => hne h.symm), hg]
        exact placed_at e
    · rcases List.mem_or_eq_of_mem_set hq with hq | rfl
      · exact placed_flat I.fl q hq
      · obtain ⟨a, c, eq⟩ := placed_flat I.fl _ (List.getElem_mem hat)
        have eg : (placed F.pl).getD (F.p % F.R) (.non, .non) = (.int a, .int c) := by
          rw [List.getD_eq_getElem?_getD, List.getElem?_eq_getElem hat, eq]; rfl
        exact ⟨wn, c, by rw [eg, hwn]⟩
theorem FI.near {F : Fer} {st : Nat} {g ri ro : List Nat} {m : Int} (I : FI F st g ri ro m) : F.b ≤ F.p ∧ F.p ≤ F.b + F.R := by
  have h1 : 0 < ri.length := by have := I.li; have := I.st1; omega
  have h2 : 0 < ro.length := by have := I.lo; have := I.st1; omega
  have a := I.ui ri[0] (List.getElem_mem h1)
  have b := I.uo ro[0] (List.getElem_mem h2)
  omega
theorem FI.took {F : Fer} {st : Nat} {g ri ro : List Nat} {m : Int} (I : FI F st g ri ro m) (wi : Bool) {u : Nat} (hu : u ∈ ri) : tookB F wi u = (wi && decide (F.b < u)) := by
  obtain ⟨h1, h2⟩ := I.ui u hu
  have hn := I.near
  have hR : 0 < F.R := by have := I.t4; unfold T4 at this; omega
  unfold tookB
  congr 1
  by_cases e : u = F.b
  · subst e; simp
  · have hne : u % (2 * F.R) ≠ F.b % (2 * F.R) := fun h => mod_ne (show F.b < u by omega) (show u < F.b + 2 * F.R by omega) h.symm
    have hlt : F.b < u := by omega
    simp [hne, hlt]
theorem amid_self (x c : Nat) : amidN x x c = x := by unfold amidN; rw [Nat.xor_self, Nat.zero_and, Nat.xor_zero]
theorem FI.val {F : Fer} {st : Nat} {g ri ro : List Nat} {m : Int} (I : FI F st g ri ro m) {u x y : Nat} (ch : Nat) (hu : u ∈ ri) (hb : F.b < u) (hq : F.pl[F.b % F.R]? = some (.int x, .int y)) :
    ∃ h : F.b < g.length, (if F.tr < F.gr then amidN y x ch else x) = g[F.b] := by
  obtain ⟨h1, h2⟩ := I.ui u hu
  have hl : F.b < g.length := by rw [I.len]; omega
  obtain ⟨y', e, hy⟩ := I.pls F.b hl I.near.2
  rw [hq] at e
  have e2 := Option.some.inj e
  have ex : x = g[F.b] := by
    have := congrArg Prod.fst e2
    simp only [D.int.injEq] at this
    omega
  have ey : y = y' := by
    have := congrArg Prod.snd e2
    simp only [D.int.injEq] at this
    omega
  refine ⟨hl, ?_⟩
  by_cases hg : F.tr < F.gr
  · rw [if_pos hg]
    have h3 := I.i1 hg u hu
    have hyg : y = x := by
      rw [ey, ex]
      rcases hy with h | ⟨h4, h5⟩
      · exact h
      · omega
    rw [hyg, amid_self, ex]
  · rw [if_neg hg, ex]
theorem FI.take {F : Fer} {st : Nat} {g ri ro : List Nat} {m m' : Int} (I : FI F st g ri ro m) (hm : m < m') (ch : Nat) (wi : Bool) {u : Nat} (hu : u = ri[ri.length - 1]'(by have := I.li; have := I.st1; omega)) :
    FI (F.take m' ch wi u) st g (smp (2 * F.R) F.p F.p1 F.tr F.gr ch :: ri.take (ri.length - 1)) ro m' := by
  have hli := I.li
  have hs1 := I.st1
  have hum : u ∈ ri := by rw [hu]; exact List.getElem_mem _
  have htk := I.took wi hum
  have hle := last_le I.mi (by omega)
  rw [← hu] at hle
  have hsb := smp_le (t := 2 * F.R) (ch := ch) (mine := F.tr) (his := F.gr) I.hp
  have hsg : ∀ x ∈ ri, x ≤ smp (2 * F.R) F.p F.p1 F.tr F.gr ch := fun x hx => smp_ge (I.ui x hx).2 fun h => I.i1 h x hx
  have hgm := I.gm
  have htm := I.tm
  have hsub : ∀ x ∈ ri.take (ri.length - 1), x ∈ ri := fun x hx => List.mem_of_mem_take hx
  have mi' : (smp (2 * F.R) F.p F.p1 F.tr F.gr ch :: ri.take (ri.length - 1)).Pairwise (· ≥ ·) :=
    List.pairwise_cons.mpr ⟨fun x hx => hsg x (hsub x hx), I.mi.sublist (List.take_sublist _ _)⟩
  have si' : ((codeN (smp (2 * F.R) F.p F.p1 F.tr F.gr ch % (2 * F.R)) : Nat) : Int) :: F.sin.take (F.sin.length - 1) = sgt (2 * F.R) (smp (2 * F.R) F.p F.p1 F.tr F.gr ch :: ri.take (ri.length - 1)) := by
    rw [I.si]; exact sgt_next _ _ _
  have li' : (smp (2 * F.R) F.p F.p1 F.tr F.gr ch :: ri.take (ri.length - 1)).length = st := by simp; omega
  obtain ⟨d, hdd⟩ : ∃ d, smp (2 * F.R) F.p F.p1 F.tr F.gr ch = d := ⟨_, rfl⟩
  simp only [hdd] at hsb hsg si' li' mi' ⊢
  have ui' : ∀ x ∈ d :: ri.take (ri.length - 1), u ≤ x ∧ x ≤ F.p := fun x hx => by
    rcases List.mem_cons.mp hx with rfl | hx
    · exact ⟨hsg u hum, hsb.1⟩
    · exact ⟨hle x (hsub x hx), (I.ui x (hsub x hx)).2⟩
  have hub := (I.ui u hum).1
  have hno : m' < F.gr → False := fun h => by omega
  cases hf : tookB F wi u with
  | false =>
    unfold Fer.take
    simp only [hf, hdd, if_false, Bool.false_eq_true]
    exact ⟨I.t4, I.hl, I.len, I.hp, .inl rfl, si', I.so, li', I.lo, hs1, I.st3, fun x hx => ⟨Nat.le_trans hub (ui' x hx).1, (ui' x hx).2⟩, I.uo, fun h => (hno h).elim, fun _ x hx => (I.uo x hx).1, Int.le_of_lt (Int.lt_of_le_of_lt hgm hm), Int.le_refl _, I.pls, I.fl, mi', I.mo⟩
  | true =>
    have hbu : F.b < u := by
      rw [htk, Bool.and_eq_true] at hf
      exact of_decide_eq_true hf.2
    unfold Fer.take
    simp only [hf, hdd, if_true]
    exact ⟨I.t4, I.hl, I.len, I.hp, .inr rfl, si', I.so, li', I.lo, hs1, I.st3, fun x hx => ⟨Nat.le_trans (Nat.succ_le_of_lt hbu) (ui' x hx).1, (ui' x hx).2⟩, fun x hx => ⟨Nat.le_succ_of_le (I.uo x hx).1, (I.uo x hx).2⟩, fun h => (hno h).elim, fun _ x hx => (I.uo x hx).1, Int.le_of_lt (Int.lt_of_le_of_lt hgm hm), Int.le_refl _, I.pls, I.fl, mi', I.mo⟩
end VL
/-! # VS12: in, among ints -/
namespace VL
open PySem PySem.Spec PyProof.Rows L2
theorem toPyL_ints : ∀ ns : List Int, toPyL (ns.map D.int) = some (ns.map PyData.int)
  | [] => rfl
  | n :: ns => by rw [List.map_cons, toPyL, toPyL_ints ns]; rfl
theorem bIn_ints (z : Int) (m : Bool) (ns : List Int) : bIn (.int z) (.nd .lst m (ns.map D.int)) = some (ns.any fun n => decide (n = z)) := by
  have h1 : SeqAt.shaped (.int z) = true := rfl
  obtain ⟨ps, e, c, dp⟩ := nbL_py (ns.map D.int) (nbL_ints ns)
  rw [toPyL_ints] at e
  cases e
  have h2 : SeqAt.shaped (.list (ns.map PyData.int)) = true := by
    unfold SeqAt.shaped
    rw [PyData.canLay0, c, PyData.depth, dp]
    simp
  have key : bIn (.int z) (.nd .lst m (ns.map D.int)) = (match toPy (.int z), toPyL (ns.map D.int) with
    | some p, some ps => if (SeqAt.shaped p && SeqAt.shaped (.list ps)) = true then some (ps.any fun z => PyData.eqv z p) else none
    | _, _ => none) := rfl
  rw [key, toPyL_ints]
  show (if (SeqAt.shaped (.int z) && SeqAt.shaped (.list (ns.map PyData.int))) = true then some ((ns.map PyData.int).any fun n => PyData.eqv n (.int z)) else none) = _
  rw [h1, h2]
  simp only [Bool.and_self, if_true, List.any_map]
  rfl
theorem gIn_ints (z : Int) (m : Bool) (ns : List Int) : gIn (.int z) (.nd .lst m (ns.map D.int)) = some (.bl (ns.any fun n => decide (n = z))) := by
  unfold gIn
  rw [bIn_ints]; rfl
theorem gNotIn_ints (z : Int) (m : Bool) (ns : List Int) : gNotIn (.int z) (.nd .lst m (ns.map D.int)) = some (.bl (!(ns.any fun n => decide (n = z)))) := by
  unfold gNotIn
  rw [bIn_ints]; rfl
end VL
/-! # VS13: the newer words by simp; dicts with text keys -/
namespace VL
open PySem PySem.Spec PyProof.Rows L2
/-! ### equality -/
def sureO (a b : D) : Option Bool := if sureEq a b = true then some true else none
@[simp] theorem gEqU_eq (a b : D) : gEqU a b = (eqU a b).map .bl := id rfl
@[simp] theorem gNeU_eq (a b : D) : gNeU a b = (eqU a b).map fun b => .bl (!b) := id rfl
@[simp] theorem eqU_str (a b : Str) : eqU (.str a) (.str b) = some (decide (a = b)) := id rfl
theorem eqU_of {a b : D} (h : ∀ x y, a = .str x → b = .str y → False) : eqU a b = (eqD a b).or (sureO a b) := by
  unfold eqU
  split
  · exact (h _ _ rfl rfl).elim
  · rfl
@[simp] theorem eqU_int (i j : Int) : eqU (.int i) (.int j) = some (decide (i = j)) := by
  rw [eqU_of (fun _ _ h => by cases h), eqD_int]; rfl
@[simp] theorem eqU_bl (i j : Bool) : eqU (.bl i) (.bl j) = some (decide (i = j)) := by
  rw [eqU_of (fun _ _ h => by cases h), eqD_bl]; rfl
theorem eqU_nd (k : Kd) (m : Bool) (ds : List D) (b : D) : eqU (.nd k m ds) b = (eqD (.nd k m ds) b).or (sureO (.nd k m ds) b) := eqU_of (fun _ _ h => by cases h)
@[simp] theorem gIntU_bl (b : Bool) : gIntU [.bl b] = some (.int (if b then 1 else 0)) := id rfl
@[simp] theorem gIntU_int (i : Int) : gIntU [.int i] = some (.int i) := id rfl
theorem gDictU_dct (m : Bool) (ks : List Key) (ds : List D) (h : shrL ds = true) : gDictU [.nd (.dct ks) m ds] = some (.nd (.dct ks) true ds) := by
  unfold gDictU gDict
  simp only [h, if_true]
theorem gList_lst (m : Bool) (ds : List D) (h : shrL ds = true) : gList [.nd .lst m ds] = some (.lst true ds) := by
  unfold gList; simp only [h, if_true]
theorem gList_tup (m : Bool) (ds : List D) (h : shrL ds = true) : gList [.nd .tup m ds] = some (.lst true ds) := by
  unfold gList; simp only [h, if_true]
theorem gTuple_tup (m : Bool) (ds : List D) (h : shrL ds = true) : gTuple [.nd .tup m ds] = some (.tup ds) := by
  unfold gTuple; simp only [h, if_true]
@[simp] theorem gLen_dct (ks : List Key) (m : Bool) (ds : List D) : gLen [.nd (.dct ks) m ds] = some (.int ks.length) := id rfl
theorem gLen_str (z : Str) (h : z.length ≤ 1000000) : gLen [.str z] = some (.int z.length) := by
  unfold gLen
  have : z.length ≤ sizeLine := Nat.le_trans h sizeLine_ge
  simp only [this, if_true]
theorem gInU_of {a b d : D} (h : gIn a b = some d) : gInU a b = some d := by unfold gInU; rw [h]
theorem gNotInU_of {a b d : D} (h : gNotIn a b = some d) : gNotInU a b = some d := by unfold gNotInU; rw [h]
/-! ### what is given out -/
def Ros.add (d : D) : Ros → Ros
  | .ok ds s => .ok (d :: ds) s
  | .err c s => .err c s
  | .stuck => .stuck
@[simp] theorem Ros.add_ok (d : D) (ds : List D) (s : Slots) : Ros.add d (.ok ds s) = .ok (d :: ds) s := id rfl
def Rb.ros (x : Rb D) (s : Slots) (k : D → Ros) : Ros := match x with
  | .ok d => k d
  | .err c => .err c s
  | .stuck => .stuck
@[simp] theorem Rb.ros_ok (d : D) (s : Slots) (k : D → Ros) : (Rb.ok d).ros s k = k d := id rfl
def moveRos (s : Slots) (i : Nat) (k : D → Slots → Ros) : Ros := match s[i]? with
  | some (some d) => k d (s.set i none)
  | _ => .stuck
@[simp] theorem osNil_eq (s : Slots) : osNil s = .ok [] s := id rfl
@[simp] theorem osCons_oF (f : Fb) (g : Fos) (s : Slots) : osCons (oF f) g s = (f s).ros s fun d => (g s).add d := by
  unfold osCons oF Rb.ros
  cases f s with
  | ok d => simp only; cases g s <;> rfl
  | err c => rfl
  | stuck => rfl
@[simp] theorem osCons_move (i : Nat) (g : Fos) (s : Slots) : osCons (oMove i) g s = moveRos s i fun d s => (g s).add d := by
  unfold osCons oMove moveRos
  cases s[i]? with
  | none => rfl
  | some o =>
    cases o with
    | none => rfl
    | some d => simp only; cases g (s.set i none) <;> rfl
@[simp] theorem moveRos_0 (d : D) (s : Slots) (k : D → Slots → Ros) : moveRos (some d :: s) 0 k = k d (none :: s) := id rfl
@[simp] theorem moveRos_s (i : Nat) (o : Option D) (s : Slots) (k : D → Slots → Ros) : moveRos (o :: s) (i + 1) k = moveRos s i fun d s => k d (o :: s) := by
  unfold moveRos
  simp only [List.getElem?_cons_succ]
  cases s[i]? with
  | none => rfl
  | some p => cases p <;> rfl
def Ros.outT (x : Ros) (k : D → Slots → Out) : Out := match x with
  | .ok ds s => if ds.length ≤ sizeLine then k (.tup ds) s else .stuck
  | .err c s => .err c s
  | .stuck => .stuck
def Ros.outL (x : Ros) (k : D → Slots → Out) : Out := match x with
  | .ok ds s => if ds.length ≤ sizeLine then k (.lst true ds) s else .stuck
  | .err c s => .err c s
  | .stuck => .stuck
@[simp] theorem Ros.outT_ok (ds : List D) (s : Slots) (k : D → Slots → Out) : (Ros.ok ds s).outT k = if ds.length ≤ sizeLine then k (.tup ds) s else .stuck := id rfl
@[simp] theorem Ros.outL_ok (ds : List D) (s : Slots) (k : D → Slots → Out) : (Ros.ok ds s).outL k = if ds.length ≤ sizeLine then k (.lst true ds) s else .stuck := id rfl
@[simp] theorem sO_oTup (g : Fos) (k : D → Slots → Out) (s : Slots) : sO (oTup g) k s = (g s).outT k := by
  unfold sO oTup Ros.outT
  cases g s with
  | ok ds s => by_cases h : ds.length ≤ sizeLine <;> simp [h]
  | err c s => rfl
  | stuck => rfl
@[simp] theorem sO_oLst (g : Fos) (k : D → Slots → Out) (s : Slots) : sO (oLst g) k s = (g s).outL k := by
  unfold sO oLst Ros.outL
  cases g s with
  | ok ds s => by_cases h : ds.length ≤ sizeLine <;> simp [h]
  | err c s => rfl
  | stuck => rfl
@[simp] theorem sRet_oTup (g : Fos) (s : Slots) : sRet (oTup g) s = (g s).outT fun d s => .ret d s := sO_oTup _ _ _
@[simp] theorem sRet_oLst (g : Fos) (s : Slots) : sRet (oLst g) s = (g s).outL fun d s => .ret d s := sO_oLst _ _ _
@[simp] theorem one_le_size : (1 : Nat) ≤ sizeLine := Nat.le_trans (by decide) sizeLine_ge
@[simp] theorem small_le_size {n : Nat} (h : n ≤ 64) : n ≤ sizeLine := Nat.le_trans (Nat.le_trans h (by decide)) sizeLine_ge
/-! ### dicts with text keys -/
abbrev As := List (Str × D)
def As.ks (l : As) : List Key := l.map fun p => .inr p.1
def As.vs (l : As) : List D := l.map (·.2)
/-- the dict -/
def As.d (m : Bool) (l : As) : D := .nd (.dct l.ks) m l.vs
def As.get (l : As) (x : Str) : Option D := match l with
  | [] => none
  | p :: l => if p.1 = x then some p.2 else As.get l x
def As.put (l : As) (x : Str) (v : D) : As := match l with
  | [] => [(x, v)]
  | p :: l => if p.1 = x then (x, v) :: l else p :: As.put l x v
theorem As.look (x : Str) : ∀ l : As, lookK (.inr x) l.ks l.vs = l.get x
  | [] => rfl
  | p :: l => by
    have ih := As.look x l
    show (if (Sum.inr p.1 : Key) = .inr x then some p.2 else lookK (.inr x) (As.ks l) (As.vs l)) = if p.1 = x then some p.2 else As.get l x
    rw [ih]
    by_cases h : p.1 = x
    · rw [if_pos h, if_pos (by rw [h])]
    · rw [if_neg h, if_neg fun e => h (Sum.inr.inj e)]
@[simp] theorem As.gIx (m : Bool) (l : As) (x : Str) : VL.gIx (As.d m l) (.str x) = l.get x := As.look x l
theorem As.idx_some {x : Str} : ∀ {l : As} {j : Nat}, idxK (.inr x) l.ks = some j → l.put x v = l.set j (x, v) ∧ j < l.length := by
  intro l
  induction l with
  | nil => intro j h; cases h
  | cons p l ih =>
    intro j h
    unfold As.ks at h
    rw [List.map_cons] at h
    unfold idxK at h
    by_cases e : p.1 = x
    · rw [if_pos (by rw [e])] at h
      cases h
      unfold As.put
      rw [if_pos e]
      exact ⟨rfl, by simp⟩
    · rw [if_neg fun q => e (Sum.inr.inj q)] at h
      obtain ⟨k, h1, h2⟩ := Option.map_eq_some_iff.mp h
      subst h2
      obtain ⟨q1, q2⟩ := ih h1
      unfold As.put
      rw [if_neg e, q1]
      exact ⟨rfl, by simp; exact q2⟩
theorem As.idx_none {x : Str} : ∀ {l : As}, idxK (.inr x) l.ks = none → l.put x v = l ++ [(x, v)] := by
  intro l
  induction l with
  | nil => intro _; rfl
  | cons p l ih =>
    intro h
    unfold As.ks at h
    rw [List.map_cons] at h
    unfold idxK at h
    by_cases e : p.1 = x
    · rw [if_pos (by rw [e])] at h; cases h
    · rw [if_neg fun q => e (Sum.inr.inj q)] at h
      have h1 := Option.map_eq_none_iff.mp h
      unfold As.put
      rw [if_neg e, ih h1]
      rfl
theorem As.setItems {s : Slots} {i : Nat} {π : List Nat} {x : Str} {v : D} {l : As} (h : l.length ≤ 1000) : VL.setItems s i π (.str x) v (As.d true l) = .nx (putAt s i π (As.d true (l.put x v))) := by
  have hl : l.ks.length < sizeLine := by
    have : l.ks.length = l.length := by simp [As.ks]
    have := sizeLine_ge
    omega
  show (match idxK (.inr x) l.ks with
    | some j => if l.ks.length < sizeLine then Out.nx (putAt s i π (.nd (.dct l.ks) true (l.vs.set j v))) else .stuck
    | none => if l.ks.length < sizeLine then Out.nx (putAt s i π (.nd (.dct (l.ks ++ [(Sum.inr x : Key)])) true (l.vs ++ [v]))) else .stuck) = _
  cases e : idxK (.inr x) l.ks with
  | some j =>
    obtain ⟨q1, q2⟩ := As.idx_some (v := v) e
    simp only [hl, if_true]
    rw [q1]
    have e1 : As.ks (l.set j (x, v)) = l.ks := by
      unfold As.ks
      rw [List.map_set]
      have g := (idxK_get (k := Sum.inr x) e).1
      unfold As.ks at g
      exact List.ext_getElem (by simp) fun n h1 h2 => by
        rw [List.getElem_set]
        split
        · rename_i hj
          subst hj
          have := List.getElem?_eq_some_iff.mp g
          exact this.2.symm
        · rfl
    have e2 : As.vs (l.set j (x, v)) = l.vs.set j v := by
      unfold As.vs
      rw [List.map_set]
    unfold As.d
    rw [e1, e2]
  | none =>
    have q := As.idx_none (v := v) e
    simp only [hl, if_true]
    rw [q]
    unfold As.d As.ks As.vs
    simp
theorem shr_dct (ks : List Key) (m : Bool) (ds : List D) : shr (.nd (.dct ks) m ds) = (!m && shrL ds) := by rw [shr]; intro h; cases h
theorem own_dct (ks : List Key) (m : Bool) (ds : List D) : own (.nd (.dct ks) m ds) = (m && ownL ds) := by rw [own]; intro h; cases h
theorem shr_ins (c : Str) (fs : List Str) (m : Bool) (ds : List D) : shr (.nd (.ins c fs) m ds) = (!m && shrL ds) := by rw [shr]; intro h; cases h
theorem own_ins (c : Str) (fs : List Str) (m : Bool) (ds : List D) : own (.nd (.ins c fs) m ds) = (m && ownL ds) := by rw [own]; intro h; cases h
theorem As.put_length (x : Str) (v : D) : ∀ l : As, (l.put x v).length ≤ l.length + 1
  | [] => by simp [As.put]
  | p :: l => by
    unfold As.put
    split
    · simp
    · simp; exact As.put_length x v l
/-! ### loops by simp -/
def forI (g : Fg) (body : Fs) (d : D) (s : Slots) : Out := match itemsD (VL.frz d) with
  | some ds => forL g body ds s
  | none => .stuck
@[simp] theorem forI_lst (g : Fg) (body : Fs) (m : Bool) (ds : List D) (s : Slots) : forI g body (.nd .lst m ds) s = forL g body (frzL ds) s := by
  unfold forI; rw [frz_nd]; rfl
@[simp] theorem forI_tup (g : Fg) (body : Fs) (m : Bool) (ds : List D) (s : Slots) : forI g body (.nd .tup m ds) s = forL g body (frzL ds) s := by
  unfold forI; rw [frz_nd]; rfl
@[simp] theorem forI_str (g : Fg) (body : Fs) (z : Str) (s : Slots) : forI g body (.str z) s = forL g body (z.cps.toList.map fun c => .str ⟨#[c]⟩) s := by
  unfold forI; rw [frz_str]; rfl
@[simp] theorem sFor_of (f : Fb) (g : Fg) (body : Fs) (s : Slots) : sFor (oF f) g body s = (f s).out s fun d s => forI g body d s := by
  unfold sFor; rw [sO_oF]; rfl
@[simp] theorem sFor_fz (i : Nat) (g : Fg) (body : Fs) (s : Slots) : sFor (oFrz i) g body s = frzOut s i fun d s => forI g body d s := by
  unfold sFor; rw [sO_frz]
  unfold frzOut
  cases s[i]? with
  | none => rfl
  | some o =>
    cases o with
    | none => rfl
    | some d => rfl
def Out.fin (o : Out) (k : Slots → Out) : Out := match o with
  | .nx s => k s
  | .ct s => k s
  | .brk s => .nx s
  | .ret d s => .ret d s
  | .err c s => .err c s
  | .stuck => .stuck
@[simp] theorem Out.fin_nx (s : Slots) (k : Slots → Out) : (Out.nx s).fin k = k s := id rfl
@[simp] theorem Out.fin_ct (s : Slots) (k : Slots → Out) : (Out.ct s).fin k = k s := id rfl
@[simp] theorem Out.fin_brk (s : Slots) (k : Slots → Out) : (Out.brk s).fin k = .nx s := id rfl
@[simp] theorem Out.fin_ret (d : D) (s : Slots) (k : Slots → Out) : (Out.ret d s).fin k = .ret d s := id rfl
@[simp] theorem Out.fin_err (c : Str) (s : Slots) (k : Slots → Out) : (Out.err c s).fin k = .err c s := id rfl
@[simp] theorem Out.fin_stuck (k : Slots → Out) : Out.stuck.fin k = .stuck := id rfl
@[simp] theorem Out.fin_ite (c : Prop) [Decidable c] (x y : Out) (k : Slots → Out) : (if c then x else y).fin k = if c then x.fin k else y.fin k := by split <;> rfl
@[simp] theorem forL_nil (g : Fg) (body : Fs) (s : Slots) : forL g body [] s = .nx s := id rfl
@[simp] theorem forL_cons (g : Fg) (body : Fs) (d : D) (ds : List D) (s : Slots) : forL g body (d :: ds) s = (optOut (g d s)).seq fun s1 => (body s1).fin (forL g body ds) := by
  rw [forL]
  cases g d s with
  | none => rfl
  | some s1 =>
    simp only [optOut_some, Out.seq_nx]
    cases body s1 <;> rfl
def extP (f : Fb) (s : Slots) (x : Nat × List Nat × D) : Out := match x.2.2 with
  | .nd .lst true ds => (f s).out s fun d s => match d with
    | .nd .lst true es => if ds.length + es.length ≤ sizeLine ∧ shrL es = true then .nx (putAt s x.1 x.2.1 (.nd .lst true (ds ++ es))) else .stuck
    | _ => .stuck
  | _ => .stuck
@[simp] theorem sExt_eq (p : Fpt) (f : Fb) (s : Slots) : sExt p f s = (p s).outP s (extP f s) := by
  unfold sExt sLst
  cases p s with
  | err c => rfl
  | stuck => rfl
  | ok x =>
    obtain ⟨i, π, d⟩ := x
    rw [Rb.outP_ok]
    unfold extP
    cases d with
    | nd k m ds =>
      cases k with
      | lst =>
        cases m with
        | true =>
          simp only
          cases f s with
          | ok e =>
            simp only [Rb.out_ok]
            cases e with
            | nd k2 m2 es =>
              cases k2 with
              | lst => cases m2 <;> rfl
              | tup => rfl
              | dct _ => rfl
              | ins _ _ => rfl
            | non => rfl
            | bl _ => rfl
            | int _ => rfl
            | str _ => rfl
          | err c => rfl
          | stuck => rfl
        | false => rfl
      | tup => rfl
      | dct _ => rfl
      | ins _ _ => rfl
    | non => rfl
    | bl _ => rfl
    | int _ => rfl
    | str _ => rfl
theorem extP_lst (f : Fb) (s : Slots) (i : Nat) (π : List Nat) (ds es : List D) (h : f s = .ok (.nd .lst true es)) (hl : ds.length + es.length ≤ 1000000) (hs : shrL es = true) : extP f s (i, π, .nd .lst true ds) = .nx (putAt s i π (.nd .lst true (ds ++ es))) := by
  unfold extP
  have : ds.length + es.length ≤ sizeLine := Nat.le_trans hl sizeLine_ge
  simp only [h, Rb.out_ok, this, hs, and_self, if_true]
@[simp] theorem ownL_app : ∀ (xs ys : List D), ownL (xs ++ ys) = (ownL xs && ownL ys)
  | [], ys => by simp
  | x :: xs, ys => by simp [ownL_app xs ys, Bool.and_assoc]
@[simp] theorem shrL_app : ∀ (xs ys : List D), shrL (xs ++ ys) = (shrL xs && shrL ys)
  | [], ys => by simp
  | x :: xs, ys => by simp [shrL_app xs ys, Bool.and_assoc]
@[simp] theorem frzL_app (xs ys : List D) : frzL (xs ++ ys) = frzL xs ++ frzL ys := by simp [frzL_map]
/-! ### comprehensions and chains by simp -/
@[simp] theorem noErr_ok {α : Type} (a : α) : noErr (Rb.ok a) = .ok a := id rfl
@[simp] theorem noErr_stuck {α : Type} : noErr (Rb.stuck : Rb α) = .stuck := id rfl
@[simp] theorem finL_ok' (r : List D) : finL (.ok r) = if r.length ≤ sizeLine then .ok (.lst true r) else .stuck := id rfl
def lcD (g : Fg) (c : Ft) (el : Fb) (vs : List Nat) (d : D) (s : Slots) : Rb D := match itemsD d with
  | some ds => if shrL ds = true then finL (compL g c el vs ds s) else .stuck
  | none => .stuck
@[simp] theorem bLc_by (f : Fb) (g : Fg) (c : Ft) (el : Fb) (vs : List Nat) (s : Slots) : bLc f g c el vs s = (f s).bind fun d => lcD g c el vs d s := id rfl
@[simp] theorem lcD_lst (g : Fg) (c : Ft) (el : Fb) (vs : List Nat) (m : Bool) (ds : List D) (s : Slots) : lcD g c el vs (.nd .lst m ds) s = if shrL ds = true then finL (compL g c el vs ds s) else .stuck := id rfl
@[simp] theorem lcD_tup (g : Fg) (c : Ft) (el : Fb) (vs : List Nat) (m : Bool) (ds : List D) (s : Slots) : lcD g c el vs (.nd .tup m ds) s = if shrL ds = true then finL (compL g c el vs ds s) else .stuck := id rfl
@[simp] theorem compL_nil (g : Fg) (c : Ft) (el : Fb) (vs : List Nat) (s : Slots) : compL g c el vs [] s = .ok [] := id rfl
@[simp] theorem compL_cons (g : Fg) (c : Ft) (el : Fb) (vs : List Nat) (d : D) (ds : List D) (s : Slots) :
    compL g c el vs (d :: ds) s = (Rb.of (g d (wipeD s vs))).bind fun s1 => (noErr (c s1)).bind fun b => if b = true then (noErr (el s1)).bind fun y => (compL g c el vs ds s).bind fun r => .ok (y :: r) else compL g c el vs ds s := by
  rw [compL]
  cases g d (wipeD s vs) <;> rfl
@[simp] theorem cYes_eq (s : Slots) : cYes s = .ok true := id rfl
def chainK (z : D) (r : Rb D) : Rb D := match z with
  | .bl b => if b = true then r else .ok (.bl false)
  | _ => .stuck
@[simp] theorem chainK_bl (b : Bool) (r : Rb D) : chainK (.bl b) r = if b = true then r else .ok (.bl false) := id rfl
@[simp] theorem bChain_eq (g g' : D → D → Option D) (f1 f2 f3 : Fb) (s : Slots) : bChain g g' f1 f2 f3 s = (f1 s).bind fun d1 => (f2 s).bind fun d2 => (Rb.of (g d1 d2)).bind fun z => chainK z ((f3 s).bind fun d3 => Rb.of (g' d2 d3)) := by
  unfold bChain
  cases f1 s with
  | ok d1 =>
    simp only [Rb.bind_ok]
    cases f2 s with
    | ok d2 =>
      simp only [Rb.bind_ok]
      cases g d1 d2 with
      | none => rfl
      | some z =>
        simp only [Rb.of_some, Rb.bind_ok]
        cases z with
        | bl b => cases b <;> rfl
        | non => rfl
        | int _ => rfl
        | str _ => rfl
        | nd _ _ _ => rfl
    | err c => rfl
    | stuck => rfl
  | err c => rfl
  | stuck => rfl
/-! ### texts compared in lists -/
theorem nb_str (x : Str) : nb (.str x) = PyData.strOk x := rfl
theorem nbL_strs : ∀ {xs : List Str}, (∀ x ∈ xs, PyData.strOk x = true) → nbL (xs.map D.str) = true
  | [], _ => by simp [nbL]
  | x :: xs, h => by
    rw [List.map_cons, nbL, nbL_strs fun y hy => h y (List.mem_cons_of_mem _ hy), nb_str, h x (by simp)]
    rfl
theorem depL_strs : ∀ xs : List Str, depL (xs.map D.str) = 0
  | [] => by simp [depL]
  | x :: xs => by
    rw [List.map_cons, depL, depL_strs xs]
    simp [dep]
theorem strs_inj {as bs : List Str} : (as.map D.str = bs.map D.str) ↔ as = bs := by
  constructor
  · intro h
    induction as generalizing bs with
    | nil => cases bs with
      | nil => rfl
      | cons b bs => cases h
    | cons a as ih => cases bs with
      | nil => cases h
      | cons b bs =>
        rw [List.map_cons, List.map_cons] at h
        injection h with h1 h2
        injection h1 with h1
        rw [h1, ih h2]
  · intro h; rw [h]
theorem eqD_strs (m m' : Bool) {as bs : List Str} (ha : ∀ x ∈ as, PyData.strOk x = true) (hb : ∀ x ∈ bs, PyData.strOk x = true) : eqD (.nd .lst m (as.map D.str)) (.nd .lst m' (bs.map D.str)) = some (decide (as = bs)) := by
  rw [eqD_nb (by rw [nb]; exact nbL_strs ha) (by rw [nb]; exact nbL_strs hb) (by rw [dep, depL_strs]; decide) (by rw [dep, depL_strs]; decide)]
  have e : ∀ xs : List Str, frz (.nd .lst m' (xs.map D.str)) = .nd .lst false (xs.map D.str) := fun xs => by
    rw [frz_nd, frzL_map, List.map_map]; rfl
  have e2 : frz (.nd .lst m (as.map D.str)) = .nd .lst false (as.map D.str) := by
    rw [frz_nd, frzL_map, List.map_map]; rfl
  rw [e, e2]
  congr 1
  by_cases h : as = bs
  · simp [h]
  · have : ¬ (D.nd Kd.lst false (as.map D.str) = D.nd Kd.lst false (bs.map D.str)) := fun q => by
      injection q with _ _ q
      exact h (strs_inj.mp q)
    simp [h, this]
theorem eqD_strs_nil (m m' : Bool) {as : List Str} (ha : ∀ x ∈ as, PyData.strOk x = true) : eqD (.nd .lst m (as.map D.str)) (.nd .lst m' []) = some (decide (as = [])) := eqD_strs m m' ha (bs := []) (by simp)
end VL
namespace VL
open PySem
@[simp] theorem sn0 : (("num" : Str) = "var") = False := by decide
@[simp] theorem sn1 : (("num" : Str) = "plus") = False := by decide
@[simp] theorem sn2 : (("num" : Str) = "minus") = False := by decide
@[simp] theorem sn3 : (("num" : Str) = "times") = False := by decide
@[simp] theorem sn4 : (("num" : Str) = "less") = False := by decide
@[simp] theorem sn5 : (("num" : Str) = "same") = False := by decide
@[simp] theorem sn6 : (("num" : Str) = "pick") = False := by decide
@[simp] theorem sn7 : (("num" : Str) = "take") = False := by decide
@[simp] theorem sn8 : (("num" : Str) = "give") = False := by decide
@[simp] theorem sn9 : (("num" : Str) = "put") = False := by decide
@[simp] theorem sn10 : (("num" : Str) = "jump") = False := by decide
@[simp] theorem sn11 : (("num" : Str) = "own") = False := by decide
@[simp] theorem sn12 : (("num" : Str) = "done") = False := by decide
@[simp] theorem sn13 : (("num" : Str) = "wait") = False := by decide
@[simp] theorem sn14 : (("var" : Str) = "num") = False := by decide
@[simp] theorem sn15 : (("var" : Str) = "plus") = False := by decide
@[simp] theorem sn16 : (("var" : Str) = "minus") = False := by decide
@[simp] theorem sn17 : (("var" : Str) = "times") = False := by decide
@[simp] theorem sn18 : (("var" : Str) = "less") = False := by decide
@[simp] theorem sn19 : (("var" : Str) = "same") = False := by decide
@[simp] theorem sn20 : (("var" : Str) = "pick") = False := by decide
@[simp] theorem sn21 : (("var" : Str) = "take") = False := by decide
@[simp] theorem sn22 : (("var" : Str) = "give") = False := by decide
@[simp] theorem sn23 : (("var" : Str) = "put") = False := by decide
@[simp] theorem sn24 : (("var" : Str) = "jump") = False := by decide
@[simp] theorem sn25 : (("var" : Str) = "own") = False := by decide
@[simp] theorem sn26 : (("var" : Str) = "done") = False := by decide
@[simp] theorem sn27 : (("var" : Str) = "wait") = False := by decide
@[simp] theorem sn28 : (("plus" : Str) = "num") = False := by decide
@[simp] theorem sn29 : (("plus" : Str) = "var") = False := by decide
@[simp] theorem sn30 : (("plus" : Str) = "minus") = False := by decide
@[simp] theorem sn31 : (("plus" : Str) = "times") = False := by decide
@[simp] theorem sn32 : (("plus" : Str) = "less") = False := by decide
@[simp] theorem sn33 : (("plus" : Str) = "same") = False := by decide
@[simp] theorem sn34 : (("plus" : Str) = "pick") = False := by decide
@[simp] theorem sn35 : (("plus" : Str) = "take") = False := by decide
@[simp] theorem sn36 : (("plus" : Str) = "give") = False := by decide
@[simp] theorem sn37 : (("plus" : Str) = "put") = False := by decide
@[simp] theorem sn38 : (("plus" : Str) = "jump") = False := by decide
@[simp] theorem sn39 : (("plus" : Str) = "own") = False := by decide
@[simp] theorem sn40 : (("plus" : Str) = "done") = False := by decide
@[simp] theorem sn41 : (("plus" : Str) = "wait") = False := by decide
@[simp] theorem sn42 : (("minus" : Str) = "num") = False := by decide
@[simp] theorem sn43 : (("minus" : Str) = "var") = False := by decide
@[simp] theorem sn44 : (("minus" : Str) = "plus") = False := by decide
@[simp] theorem sn45 : (("minus" : Str) = "times") = False := by decide
@[simp] theorem sn46 : (("minus" : Str) = "less") = False := by decide
@[simp] theorem sn47 : (("minus" : Str) = "same") = False := by decide
@[simp] theorem sn48 : (("minus" : Str) = "pick") = False := by decide
@[simp] theorem sn49 : (("minus" : Str) = "take") = False := by decide
@[simp] theorem sn50 : (("minus" : Str) = "give") = False := by decide
@[simp] theorem sn51 : (("minus" : Str) = "put") = False := by decide
@[simp] theorem sn52 : (("minus" : Str) = "jump") = False := by decide
@[simp] theorem sn53 : (("minus" : Str) = "own") = False := by decide
@[simp] theorem sn54 : (("minus" : Str) = "done") = False := by decide
@[simp] theorem sn55 : (("minus" : Str) = "wait") = False := by decide
@[simp] theorem sn56 : (("times" : Str) = "num") = False := by decide
@[simp] theorem sn57 : (("times" : Str) = "var") = False := by decide
@[simp] theorem sn58 : (("times" : Str) = "plus") = False := by decide
@[simp] theorem sn59 : (("times" : Str) = "minus") = False := by decide
@[simp] theorem sn60 : (("times" : Str) = "less") = False := by decide
@[simp] theorem sn61 : (("times" : Str) = "same") = False := by decide
@[simp] theorem sn62 : (("times" : Str) = "pick") = False := by decide
@[simp] theorem sn63 : (("times" : Str) = "take") = False := by decide
@[simp] theorem sn64 : (("times" : Str) = "give") = False := by decide
@[simp] theorem sn65 : (("times" : Str) = "put") = False := by decide
@[simp] theorem sn66 : (("times" : Str) = "jump") = False := by decide
@[simp] theorem sn67 : (("times" : Str) = "own") = False := by decide
@[simp] theorem sn68 : (("times" : Str) = "done") = False := by decide
@[simp] theorem sn69 : (("times" : Str) = "wait") = False := by decide
@[simp] theorem sn70 : (("less" : Str) = "num") = False := by decide
@[simp] theorem sn71 : (("less" : Str) = "var") = False := by decide
@[simp] theorem sn72 : (("less" : Str) = "plus") = False := by decide
@[simp] theorem sn73 : (("less" : Str) = "minus") = False := by decide
@[simp] theorem sn74 : (("less" : Str) = "times") = False := by decide
@[simp] theorem sn75 : (("less" : Str) = "same") = False := by decide
@[simp] theorem sn76 : (("less" : Str) = "pick") = False := by decide
@[simp] theorem sn77 : (("less" : Str) = "take") = False := by decide
@[simp] theorem sn78 : (("less" : Str) = "give") = False := by decide
@[simp] theorem sn79 : (("less" : Str) = "put") = False := by decide
@[simp] theorem sn80 : (("less" : Str) = "jump") = False := by decide
@[simp] theorem sn81 : (("less" : Str) = "own") = False := by decide
@[simp] theorem sn82 : (("less" : Str) = "done") = False := by decide
@[simp] theorem sn83 : (("less" : Str) = "wait") = False := by decide
@[simp] theorem sn84 : (("same" : Str) = "num") = False := by decide
@[simp] theorem sn85 : (("same" : Str) = "var") = False := by decide
@[simp] theorem sn86 : (("same" : Str) = "plus") = False := by decide
@[simp] theorem sn87 : (("same" : Str) = "minus") = False := by decide
@[simp] theorem sn88 : (("same" : Str) = "times") = False := by decide
@[simp] theorem sn89 : (("same" : Str) = "less") = False := by decide
@[simp] theorem sn90 : (("same" : Str) = "pick") = False := by decide
@[simp] theorem sn91 : (("same" : Str) = "take") = False := by decide
@[simp] theorem sn92 : (("same" : Str) = "give") = False := by decide
@[simp] theorem sn93 : (("same" : Str) = "put") = False := by decide
@[simp] theorem sn94 : (("same" : Str) = "jump") = False := by decide
@[simp] theorem sn95 : (("same" : Str) = "own") = False := by decide
@[simp] theorem sn96 : (("same" : Str) = "done") = False := by decide
@[simp] theorem sn97 : (("same" : Str) = "wait") = False := by decide
@[simp] theorem sn98 : (("pick" : Str) = "num") = False := by decide
@[simp] theorem sn99 : (("pick" : Str) = "var") = False := by decide
@[simp] theorem sn100 : (("pick" : Str) = "plus") = False := by decide
@[simp] theorem sn101 : (("pick" : Str) = "minus") = False := by decide
@[simp] theorem sn102 : (("pick" : Str) = "times") = False := by decide
@[simp] theorem sn103 : (("pick" : Str) = "less") = False := by decide
@[simp] theorem sn104 : (("pick" : Str) = "same") = False := by decide
@[simp] theorem sn105 : (("pick" : Str) = "take") = False := by decide
@[simp] theorem sn106 : (("pick" : Str) = "give") = False := by decide
@[simp] theorem sn107 : (("pick" : Str) = "put") = False := by decide
@[simp] theorem sn108 : (("pick" : Str) = "jump") = False := by decide
@[simp] theorem sn109 : (("pick" : Str) = "own") = False := by decide
@[simp] theorem sn110 : (("pick" : Str) = "done") = False := by decide
@[simp] theorem sn111 : (("pick" : Str) = "wait") = False := by decide
@[simp] theorem sn112 : (("take" : Str) = "num") = False := by decide
@[simp] theorem sn113 : (("take" : Str) = "var") = False := by decide
@[simp] theorem sn114 : (("take" : Str) = "plus") = False := by decide
@[simp] theorem sn115 : (("take" : Str) = "minus") = False := by decide
@[simp] theorem sn116 : (("take" : Str) = "times") = False := by decide
@[simp] theorem sn117 : (("take" : Str) = "less") = False := by decide
@[simp] theorem sn118 : (("take" : Str) = "same") = False := by decide
@[simp] theorem sn119 : (("take" : Str) = "pick") = False := by decide
@[simp] theorem sn120 : (("take" : Str) = "give") = False := by decide
@[simp] theorem sn121 : (("take" : Str) = "put") = False := by decide
@[simp] theorem sn122 : (("take" : Str) = "jump") = False := by decide
@[simp] theorem sn123 : (("take" : Str) = "own") = False := by decide
@[simp] theorem sn124 : (("take" : Str) = "done") = False := by decide
@[simp] theorem sn125 : (("take" : Str) = "wait") = False := by decide
@[simp] theorem sn126 : (("give" : Str) = "num") = False := by decide
@[simp] theorem sn127 : (("give" : Str) = "var") = False := by decide
@[simp] theorem sn128 : (("give" : Str) = "plus") = False := by decide
@[simp] theorem sn129 : (("give" : Str) = "minus") = False := by decide
@[simp] theorem sn130 : (("give" : Str) = "times") = False := by decide
@[simp] theorem sn131 : (("give" : Str) = "less") = False := by decide
@[simp] theorem sn132 : (("give" : Str) = "same") = False := by decide
@[simp] theorem sn133 : (("give" : Str) = "pick") = False := by decide
@[simp] theorem sn134 : (("give" : Str) = "take") = False := by decide
@[simp] theorem sn135 : (("give" : Str) = "put") = False := by decide
@[simp] theorem sn136 : (("give" : Str) = "jump") = False := by decide
@[simp] theorem sn137 : (("give" : Str) = "own") = False := by decide
@[simp] theorem sn138 : (("give" : Str) = "done") = False := by decide
@[simp] theorem sn139 : (("give" : Str) = "wait") = False := by decide
@[simp] theorem sn140 : (("put" : Str) = "num") = False := by decide
@[simp] theorem sn141 : (("put" : Str) = "var") = False := by decide
@[simp] theorem sn142 : (("put" : Str) = "plus") = False := by decide
@[simp] theorem sn143 : (("put" : Str) = "minus") = False := by decide
@[simp] theorem sn144 : (("put" : Str) = "times") = False := by decide
@[simp] theorem sn145 : (("put" : Str) = "less") = False := by decide
@[simp] theorem sn146 : (("put" : Str) = "same") = False := by decide
@[simp] theorem sn147 : (("put" : Str) = "pick") = False := by decide
@[simp] theorem sn148 : (("put" : Str) = "take") = False := by decide
@[simp] theorem sn149 : (("put" : Str) = "give") = False := by decide
@[simp] theorem sn150 : (("put" : Str) = "jump") = False := by decide
@[simp] theorem sn151 : (("put" : Str) = "own") = False := by decide
@[simp] theorem sn152 : (("put" : Str) = "done") = False := by decide
@[simp] theorem sn153 : (("put" : Str) = "wait") = False := by decide
@[simp] theorem sn154 : (("jump" : Str) = "num") = False := by decide
@[simp] theorem sn155 : (("jump" : Str) = "var") = False := by decide
@[simp] theorem sn156 : (("jump" : Str) = "plus") = False := by decide
@[simp] theorem sn157 : (("jump" : Str) = "minus") = False := by decide
@[simp] theorem sn158 : (("jump" : Str) = "times") = False := by decide
@[simp] theorem sn159 : (("jump" : Str) = "less") = False := by decide
@[simp] theorem sn160 : (("jump" : Str) = "same") = False := by decide
@[simp] theorem sn161 : (("jump" : Str) = "pick") = False := by decide
@[simp] theorem sn162 : (("jump" : Str) = "take") = False := by decide
@[simp] theorem sn163 : (("jump" : Str) = "give") = False := by decide
@[simp] theorem sn164 : (("jump" : Str) = "put") = False := by decide
@[simp] theorem sn165 : (("jump" : Str) = "own") = False := by decide
@[simp] theorem sn166 : (("jump" : Str) = "done") = False := by decide
@[simp] theorem sn167 : (("jump" : Str) = "wait") = False := by decide
@[simp] theorem sn168 : (("own" : Str) = "num") = False := by decide
@[simp] theorem sn169 : (("own" : Str) = "var") = False := by decide
@[simp] theorem sn170 : (("own" : Str) = "plus") = False := by decide
@[simp] theorem sn171 : (("own" : Str) = "minus") = False := by decide
@[simp] theorem sn172 : (("own" : Str) = "times") = False := by decide
@[simp] theorem sn173 : (("own" : Str) = "less") = False := by decide
@[simp] theorem sn174 : (("own" : Str) = "same") = False := by decide
@[simp] theorem sn175 : (("own" : Str) = "pick") = False := by decide
@[simp] theorem sn176 : (("own" : Str) = "take") = False := by decide
@[simp] theorem sn177 : (("own" : Str) = "give") = False := by decide
@[simp] theorem sn178 : (("own" : Str) = "put") = False := by decide
@[simp] theorem sn179 : (("own" : Str) = "jump") = False := by decide
@[simp] theorem sn180 : (("own" : Str) = "done") = False := by decide
@[simp] theorem sn181 : (("own" : Str) = "wait") = False := by decide
@[simp] theorem sn182 : (("done" : Str) = "num") = False := by decide
@[simp] theorem sn183 : (("done" : Str) = "var") = False := by decide
@[simp] theorem sn184 : (("done" : Str) = "plus") = False := by decide
@[simp] theorem sn185 : (("done" : Str) = "minus") = False := by decide
@[simp] theorem sn186 : (("done" : Str) = "times") = False := by decide
@[simp] theorem sn187 : (("done" : Str) = "less") = False := by decide
@[simp] theorem sn188 : (("done" : Str) = "same") = False := by decide
@[simp] theorem sn189 : (("done" : Str) = "pick") = False := by decide
@[simp] theorem sn190 : (("done" : Str) = "take") = False := by decide
@[simp] theorem sn191 : (("done" : Str) = "give") = False := by decide
@[simp] theorem sn192 : (("done" : Str) = "put") = False := by decide
@[simp] theorem sn193 : (("done" : Str) = "jump") = False := by decide
@[simp] theorem sn194 : (("done" : Str) = "own") = False := by decide
@[simp] theorem sn195 : (("done" : Str) = "wait") = False := by decide
@[simp] theorem sn196 : (("wait" : Str) = "num") = False := by decide
@[simp] theorem sn197 : (("wait" : Str) = "var") = False := by decide
@[simp] theorem sn198 : (("wait" : Str) = "plus") = False := by decide
@[simp] theorem sn199 : (("wait" : Str) = "minus") = False := by decide
@[simp] theorem sn200 : (("wait" : Str) = "times") = False := by decide
@[simp] theorem sn201 : (("wait" : Str) = "less") = False := by decide
@[simp] theorem sn202 : (("wait" : Str) = "same") = False := by decide
@[simp] theorem sn203 : (("wait" : Str) = "pick") = False := by decide
@[simp] theorem sn204 : (("wait" : Str) = "take") = False := by decide
@[simp] theorem sn205 : (("wait" : Str) = "give") = False := by decide
@[simp] theorem sn206 : (("wait" : Str) = "put") = False := by decide
@[simp] theorem sn207 : (("wait" : Str) = "jump") = False := by decide
@[simp] theorem sn208 : (("wait" : Str) = "own") = False := by decide
@[simp] theorem sn209 : (("wait" : Str) = "done") = False := by decide
end VL
/-! # VS14: terms -/
namespace VL
open PySem PySem.Spec PyProof.Rows L2
inductive Op2 where
  | plus | minus | times | less | same
  deriving DecidableEq
def Op2.nm : Op2 → Str
  | .plus => "plus" | .minus => "minus" | .times => "times" | .less => "less" | .same => "same"
inductive Tm where
  | num (n : Int) | var (x : Str) | two (f : Op2) (a b : Tm) | pick (c a b : Tm)
def Tm.d : Tm → D
  | .num n => .tup [.str "num", .int n]
  | .var x => .tup [.str "var", .str x]
  | .two f a b => .tup [.str f.nm, a.d, b.d]
  | .pick c a b => .tup [.str "pick", c.d, a.d, b.d]
def Tm.dep : Tm → Nat
  | .num _ => 1
  | .var _ => 1
  | .two _ a b => max a.dep b.dep + 1
  | .pick c a b => max c.dep (max a.dep b.dep) + 1
def Tm.parts : Tm → Nat
  | .num _ => 1
  | .var _ => 1
  | .two _ a b => a.parts + b.parts + 1
  | .pick c a b => c.parts + a.parts + b.parts + 1
def Tm.vars : Tm → List Str
  | .num _ => []
  | .var x => [x]
  | .two _ a b => a.vars ++ b.vars
  | .pick c a b => c.vars ++ a.vars ++ b.vars
@[simp] theorem Tm.frz : ∀ t : Tm, VL.frz t.d = t.d
  | .num n => by simp [Tm.d]
  | .var x => by simp [Tm.d]
  | .two f a b => by simp [Tm.d, Tm.frz a, Tm.frz b]
  | .pick c a b => by simp [Tm.d, Tm.frz a, Tm.frz b, Tm.frz c]
@[simp] theorem Tm.shr : ∀ t : Tm, VL.shr t.d = true
  | .num n => by simp [Tm.d]
  | .var x => by simp [Tm.d]
  | .two f a b => by simp [Tm.d, Tm.shr a, Tm.shr b]
  | .pick c a b => by simp [Tm.d, Tm.shr a, Tm.shr b, Tm.shr c]
@[simp] theorem Tm.own : ∀ t : Tm, VL.own t.d = true
  | .num n => by simp [Tm.d]
  | .var x => by simp [Tm.d]
  | .two f a b => by simp [Tm.d, Tm.own a, Tm.own b]
  | .pick c a b => by simp [Tm.d, Tm.own a, Tm.own b, Tm.own c]
@[simp] theorem shrL_strs (xs : List Str) : shrL (xs.map D.str) = true := shrL_map (fun _ => rfl) xs
@[simp] theorem ownL_strs (xs : List Str) : ownL (xs.map D.str) = true := ownL_map (fun _ => rfl) xs
@[simp] theorem frzL_strs (xs : List Str) : frzL (xs.map D.str) = xs.map D.str := by
  rw [frzL_map, List.map_map]; rfl
@[simp] theorem strsD_map : ∀ xs : List Str, strsD (xs.map D.str) = some xs
  | [] => rfl
  | x :: xs => by rw [List.map_cons, strsD, strsD_map xs]; rfl
/-! ### names that differ -/
theorem sne1 : (("num" : Str) = "var") = False := by decide
theorem nmne (f : Op2) : (f.nm = "num") = False ∧ (f.nm = "var") = False ∧ (f.nm = "pick") = False := by cases f <;> decide
theorem pkne : (("pick" : Str) = "num") = False ∧ (("pick" : Str) = "var") = False := by decide
theorem vrne : (("var" : Str) = "num") = False := by decide
@[simp] theorem atI_0 {α : Type} (a : α) (l : List α) : L2.atI (a :: l) 0 = some a := L2.atI_nat (xs := a :: l) (j := 0) (v := a) rfl
@[simp] theorem atI_1 {α : Type} (a b : α) (l : List α) : L2.atI (a :: b :: l) 1 = some b := L2.atI_nat (xs := a :: b :: l) (j := 1) (v := b) rfl
@[simp] theorem atI_2 {α : Type} (a b c : α) (l : List α) : L2.atI (a :: b :: c :: l) 2 = some c := L2.atI_nat (xs := a :: b :: c :: l) (j := 2) (v := c) rfl
@[simp] theorem atI_3 {α : Type} (a b c d : α) (l : List α) : L2.atI (a :: b :: c :: d :: l) 3 = some d := L2.atI_nat (xs := a :: b :: c :: d :: l) (j := 3) (v := d) rfl
@[simp] theorem atI_4 {α : Type} (a b c d e : α) (l : List α) : L2.atI (a :: b :: c :: d :: e :: l) 4 = some e := L2.atI_nat (xs := a :: b :: c :: d :: e :: l) (j := 4) (v := e) rfl
@[simp] theorem two_le_size : (2 : Nat) ≤ sizeLine := Nat.le_trans (by decide) sizeLine_ge
@[simp] theorem three_le_size : (3 : Nat) ≤ sizeLine := Nat.le_trans (by decide) sizeLine_ge
@[simp] theorem four_le_size : (4 : Nat) ≤ sizeLine := Nat.le_trans (by decide) sizeLine_ge
@[simp] theorem five_le_size : (5 : Nat) ≤ sizeLine := Nat.le_trans (by decide) sizeLine_ge
@[simp] theorem zero_le_size : (0 : Nat) ≤ sizeLine := Nat.zero_le _
/-! ### cut -/
theorem cut_ok (w : Nat) (n : Int) (h : w ≤ 1000) : Pg.m_cut [.int w, .int n] = .ok (.int (n % 2 ^ w)) := by
  unfold Pg.m_cut
  rw [fnD_eq]
  have e1 : gShl (.int 1) (.int w) = some (.int (2 ^ w)) := by
    have := gShl_one (j := (w : Int)) (by omega) (by omega)
    rw [Int.toNat_natCast] at this; exact this
  have e2 : gMod (.int n) (.int (2 ^ w)) = some (.int (n % 2 ^ w)) := gMod_i (Int.pow_pos (by decide))
  simp [e1, e2]
/-! ### the words of an island -/
abbrev Ws := List (Str × Int)
def Ws.a (ws : Ws) : As := ws.map fun p => (p.1, .int p.2)
abbrev Ws.d (m : Bool) (ws : Ws) : D := As.d m ws.a
def Ws.get (ws : Ws) (x : Str) : Option Int := match ws with
  | [] => none
  | p :: ws => if p.1 = x then some p.2 else Ws.get ws x
def Ws.put (ws : Ws) (x : Str) (v : Int) : Ws := match ws with
  | [] => [(x, v)]
  | p :: ws => if p.1 = x then (x, v) :: ws else p :: Ws.put ws x v
theorem Ws.a_get (x : Str) : ∀ ws : Ws, ws.a.get x = (ws.get x).map .int
  | [] => rfl
  | p :: ws => by
    have ih := Ws.a_get x ws
    show (if p.1 = x then some (D.int p.2) else As.get (Ws.a ws) x) = (if p.1 = x then some p.2 else Ws.get ws x).map .int
    rw [ih]
    split <;> rfl
theorem Ws.a_put (x : Str) (v : Int) : ∀ ws : Ws, ws.a.put x (.int v) = (ws.put x v).a
  | [] => rfl
  | p :: ws => by
    have ih := Ws.a_put x v ws
    show (if p.1 = x then (x, D.int v) :: Ws.a ws else (p.1, D.int p.2) :: As.put (Ws.a ws) x (.int v)) = Ws.a (if p.1 = x then (x, v) :: ws else p :: Ws.put ws x v)
    rw [ih]
    split <;> rfl
theorem shrL_as {l : As} (h : ∀ p ∈ l, shr p.2 = true) : shrL l.vs = true := shrL_of fun d hd => by
  obtain ⟨p, hp, rfl⟩ := List.mem_map.mp hd
  exact h p hp
@[simp] theorem Ws.shrL (ws : Ws) : VL.shrL (As.vs ws.a) = true := shrL_as fun p hp => by
  obtain ⟨q, _, rfl⟩ := List.mem_map.mp hp
  rfl
@[simp] theorem Ws.ownL (ws : Ws) : VL.ownL (As.vs ws.a) = true := ownL_of fun d hd => by
  obtain ⟨p, hp, rfl⟩ := List.mem_map.mp hd
  obtain ⟨q, _, rfl⟩ := List.mem_map.mp hp
  rfl
theorem frzL_as {l : As} (h : ∀ p ∈ l, VL.frz p.2 = p.2) : frzL l.vs = l.vs := by
  rw [frzL_map]
  unfold As.vs
  rw [List.map_map]
  exact List.map_congr_left fun p hp => h p hp
@[simp] theorem Ws.frz (m : Bool) (ws : Ws) : VL.frz (Ws.d m ws) = Ws.d false ws := by
  unfold Ws.d As.d
  rw [frz_nd, frzL_as]
  intro p hp
  obtain ⟨q, _, rfl⟩ := List.mem_map.mp hp
  rfl
theorem Ws.put_length (ws : Ws) (x : Str) (v : Int) : (ws.put x v).length ≤ ws.length + 1 := by
  induction ws with
  | nil => simp [Ws.put]
  | cons p ws ih =>
    unfold Ws.put
    split
    · simp
    · simp; exact ih
theorem Ws.get_put (ws : Ws) (x y : Str) (v : Int) : (ws.put x v).get y = if x = y then some v else ws.get y := by
  induction ws with
  | nil => rfl
  | cons p ws ih =>
    unfold Ws.put
    by_cases h : p.1 = x
    · rw [if_pos h]
      unfold Ws.get
      by_cases e : x = y
      · simp [e]
      · have : ¬ p.1 = y := fun q => e (h.symm.trans q)
        simp [e, this]
    · rw [if_neg h]
      unfold Ws.get
      rw [ih]
      by_cases e : x = y
      · subst e; simp [h]
      · simp [e]
/-! ### a term's worth -/
def Op2.ap : Op2 → Int → Int → Int
  | .plus, x, y => x + y
  | .minus, x, y => x - y
  | .times, x, y => x * y
  | .less, x, y => if x < y then 1 else 0
  | .same, x, y => if x = y then 1 else 0
def Tm.worth (w : Nat) (ws : Ws) : Tm → Option Int
  | .num n => some (n % 2 ^ w)
  | .var x => ws.get x
  | .two f a b => (Tm.worth w ws a).bind fun x => (Tm.worth w ws b).bind fun y => some (f.ap x y % 2 ^ w)
  | .pick c a b => (Tm.worth w ws c).bind fun x => if x ≠ 0 then Tm.worth w ws a else Tm.worth w ws b
/-- words of the width -/
def Ws.ok (w : Nat) (ws : Ws) : Prop := ∀ p ∈ ws, 0 ≤ p.2 ∧ p.2 < 2 ^ w
theorem Ws.ok_get {w : Nat} {ws : Ws} (h : ws.ok w) {x : Str} {v : Int} (e : ws.get x = some v) : 0 ≤ v ∧ v < 2 ^ w := by
  induction ws with
  | nil => cases e
  | cons p ws ih =>
    unfold Ws.get at e
    split at e
    · cases e; exact h p (by simp)
    · exact ih (fun q hq => h q (List.mem_cons_of_mem _ hq)) e
theorem mod_pow (n : Int) (w : Nat) : 0 ≤ n % 2 ^ w ∧ n % 2 ^ w < 2 ^ w := ⟨Int.emod_nonneg _ (Int.ne_of_gt (Int.pow_pos (by decide))), Int.emod_lt_of_pos _ (Int.pow_pos (by decide))⟩
theorem Tm.worth_in {w : Nat} {ws : Ws} (h : ws.ok w) : ∀ {t : Tm} {v : Int}, t.worth w ws = some v → 0 ≤ v ∧ v < 2 ^ w
  | .num n, v, e => by cases e; exact mod_pow _ _
  | .var x, v, e => Ws.ok_get h e
  | .two f a b, v, e => by
    unfold Tm.worth at e
    obtain ⟨x, _, e⟩ := Option.bind_eq_some_iff.mp e
    obtain ⟨y, _, e⟩ := Option.bind_eq_some_iff.mp e
    cases e; exact mod_pow _ _
  | .pick c a b, v, e => by
    unfold Tm.worth at e
    obtain ⟨x, _, e⟩ := Option.bind_eq_some_iff.mp e
    split at e
    · exact Tm.worth_in h e
    · exact Tm.worth_in h e
theorem pow_le (w : Nat) (h : w ≤ 64) : (2 : Int) ^ w ≤ 2 ^ 64 := by
  have := Nat.pow_le_pow_right (n := 2) (by decide) h
  have e : ((2 ^ w : Nat) : Int) ≤ ((2 ^ 64 : Nat) : Int) := Int.ofNat_le.mpr this
  rw [Int.natCast_pow, Int.natCast_pow] at e
  exact e
theorem worth_ok {w : Nat} {ws : Ws} (hw : w ≤ 64) (ok : ws.ok w) : ∀ (n : Nat) (t : Tm) (v : Int), t.dep ≤ n → t.worth w ws = some v → Pg.m_worth n [t.d, .int w, Ws.d false ws] = .ok (.int v)
  | 0, t, v, hd, _ => by cases t <;> simp [Tm.dep] at hd
  | n + 1, .num k, v, hd, e => by
    unfold Pg.m_worth
    rw [fnD_eq]
    cases e
    simp [Tm.d, cut_ok w k (by omega)]
  | n + 1, .var x, v, hd, e => by
    unfold Pg.m_worth
    rw [fnD_eq]
    have g : As.get ws.a x = some (.int v) := by rw [Ws.a_get, show ws.get x = some v from e]; rfl
    simp [Tm.d, vrne, g]
  | n + 1, .two f a b, v, hd, e => by
    unfold Tm.worth at e
    obtain ⟨x, ex, e⟩ := Option.bind_eq_some_iff.mp e
    obtain ⟨y, ey, e⟩ := Option.bind_eq_some_iff.mp e
    cases e
    have hd' : a.dep ≤ n ∧ b.dep ≤ n := by unfold Tm.dep at hd; omega
    have ia := worth_ok hw ok n a x hd'.1 ex
    have ib := worth_ok hw ok n b y hd'.2 ey
    have bx := Tm.worth_in ok ex
    have byy := Tm.worth_in ok ey
    have pw := pow_le w hw
    have mu : gMulU (.int x) (.int y) = some (.int (x * y)) := gMul_b (by omega) (by omega) (by omega) (by omega)
    have c := fun z => cut_ok w z (by omega)
    unfold Pg.m_worth
    rw [fnD_eq]
    obtain ⟨n1, n2, n3⟩ := nmne f
    simp only [Tm.d]
    cases f <;> simp [n1, n2, n3, ia, ib, c, mu, Op2.nm, Op2.ap]
  | n + 1, .pick c a b, v, hd, e => by
    unfold Tm.worth at e
    obtain ⟨x, ex, e⟩ := Option.bind_eq_some_iff.mp e
    have hd' : c.dep ≤ n ∧ a.dep ≤ n ∧ b.dep ≤ n := by unfold Tm.dep at hd; omega
    have ic := worth_ok hw ok n c x hd'.1 ex
    unfold Pg.m_worth
    rw [fnD_eq]
    simp only [Tm.d]
    split at e
    · rename_i h
      have ia := worth_ok hw ok n a v hd'.2.1 e
      simp [pkne, ic, h, ia]
    · rename_i h
      have h' : x = 0 := by simpa using h
      have ib := worth_ok hw ok n b v hd'.2.2 e
      subst h'
      simp [pkne, ic, ib]
/-! ### inner, size_of, vars_read, vars_in -/
theorem gSl_tail (m : Bool) (a : D) (ds : List D) (h : shrL ds = true) : gSl (.nd .tup m (a :: ds)) (some 1) none = some (.tup ds) := by
  have e : cutA (a :: ds) (some 1) none = ds := by
    have := cutA_lo (a :: ds) 1
    exact this
  rw [gSl_tup _ _ _ _ (by rw [e]; exact h), e]
def Tm.kids : Tm → List Tm
  | .num _ => []
  | .var _ => []
  | .two _ a b => [a, b]
  | .pick c a b => [c, a, b]
theorem inner_ok (t : Tm) : Pg.m_inner [t.d] = .ok (.lst true (t.kids.map Tm.d)) := by
  unfold Pg.m_inner
  rw [fnD_eq]
  cases t with
  | num n => simp [Tm.d, Tm.kids]
  | var n => simp [Tm.d, Tm.kids]
  | two f a b =>
    have g := gSl_tail false (.str f.nm) [a.d, b.d] (by simp)
    have g2 := gList_tup false [a.d, b.d] (by simp)
    have n1 := (nmne f).1
    have n2 := (nmne f).2.1
    simp [Tm.d, Tm.kids, n1, n2, g, g2]
  | pick c a b =>
    have g := gSl_tail false (.str "pick") [c.d, a.d, b.d] (by simp)
    have g2 := gList_tup false [c.d, a.d, b.d] (by simp)
    simp [Tm.d, Tm.kids, g, g2]
@[simp] theorem gMax_ii (i j : Int) : gMax [.int i, .int j] = some (.int (if j > i then j else i)) := id rfl
theorem size_ok : ∀ (n : Nat) (t : Tm), t.dep ≤ n → Pg.m_size_of n [t.d] = .ok (.tup [.int t.parts, .int t.dep])
  | 0, t, hd => by cases t <;> simp [Tm.dep] at hd
  | n + 1, .num k, hd => by
    unfold Pg.m_size_of
    rw [fnD_eq]
    simp [inner_ok, Tm.kids, Tm.parts, Tm.dep]
  | n + 1, .var k, hd => by
    unfold Pg.m_size_of
    rw [fnD_eq]
    simp [inner_ok, Tm.kids, Tm.parts, Tm.dep]
  | n + 1, .two f a b, hd => by
    have hd' : a.dep ≤ n ∧ b.dep ≤ n := by unfold Tm.dep at hd; omega
    have ia := size_ok n a hd'.1
    have ib := size_ok n b hd'.2
    unfold Pg.m_size_of
    rw [fnD_eq]
    simp [inner_ok, Tm.kids, ia, ib, Tm.parts, Tm.dep]
    have := a.dep; have := b.dep
    refine ⟨by omega, ?_⟩
    split <;> split <;> omega
  | n + 1, .pick c a b, hd => by
    have hd' : c.dep ≤ n ∧ a.dep ≤ n ∧ b.dep ≤ n := by unfold Tm.dep at hd; omega
    have ic := size_ok n c hd'.1
    have ia := size_ok n a hd'.2.1
    have ib := size_ok n b hd'.2.2
    unfold Pg.m_size_of
    rw [fnD_eq]
    simp [inner_ok, Tm.kids, ia, ib, ic, Tm.parts, Tm.dep]
    refine ⟨by omega, ?_⟩
    repeat' split
    all_goals omega
theorem Tm.vars_le : ∀ t : Tm, t.vars.length ≤ t.parts
  | .num _ => by simp [Tm.vars, Tm.parts]
  | .var _ => by simp [Tm.vars, Tm.parts]
  | .two _ a b => by
    have := Tm.vars_le a; have := Tm.vars_le b
    simp [Tm.vars, Tm.parts]; omega
  | .pick c a b => by
    have := Tm.vars_le a; have := Tm.vars_le b; have := Tm.vars_le c
    simp [Tm.vars, Tm.parts]; omega
def Tm.form : Tm → Str
  | .num _ => "num"
  | .var _ => "var"
  | .two f _ _ => f.nm
  | .pick _ _ _ => "pick"
@[simp] theorem Tm.gIx0 (t : Tm) : VL.gIx t.d (.int 0) = some (.str t.form) := by cases t <;> simp [Tm.d, Tm.form]
theorem vars_ok : ∀ (n : Nat) (t : Tm), t.dep ≤ n → t.parts ≤ 1000 → Pg.m_vars_read n [t.d] = .ok (.lst true (t.vars.map D.str))
  | 0, t, hd, _ => by cases t <;> simp [Tm.dep] at hd
  | n + 1, .num k, hd, hp => by
    unfold Pg.m_vars_read
    rw [fnD_eq]
    simp [inner_ok, Tm.form, Tm.kids, Tm.vars]
  | n + 1, .var k, hd, hp => by
    unfold Pg.m_vars_read
    rw [fnD_eq]
    simp [Tm.form, Tm.vars]
    simp [Tm.d]
  | n + 1, .two f a b, hd, hp => by
    have hd' : a.dep ≤ n ∧ b.dep ≤ n := by unfold Tm.dep at hd; omega
    have hp' : a.parts + b.parts ≤ 1000 := by unfold Tm.parts at hp; omega
    have ia := vars_ok n a hd'.1 (by omega)
    have ib := vars_ok n b hd'.2 (by omega)
    have la := Tm.vars_le a
    have lb := Tm.vars_le b
    have n2 := (nmne f).2.1
    unfold Pg.m_vars_read
    rw [fnD_eq]
    simp [inner_ok, Tm.form, n2, Tm.kids]
    rw [extP_lst (es := a.vars.map D.str) (h := by simp [ia]) (hl := by simp; omega) (hs := by simp)]
    simp
    rw [extP_lst (es := b.vars.map D.str) (h := by simp [ib]) (hl := by simp; omega) (hs := by simp)]
    simp [Tm.vars]
  | n + 1, .pick c a b, hd, hp => by
    have hd' : c.dep ≤ n ∧ a.dep ≤ n ∧ b.dep ≤ n := by unfold Tm.dep at hd; omega
    have hp' : c.parts + a.parts + b.parts ≤ 1000 := by unfold Tm.parts at hp; omega
    have ic := vars_ok n c hd'.1 (by omega)
    have ia := vars_ok n a hd'.2.1 (by omega)
    have ib := vars_ok n b hd'.2.2 (by omega)
    have lc := Tm.vars_le c
    have la := Tm.vars_le a
    have lb := Tm.vars_le b
    unfold Pg.m_vars_read
    rw [fnD_eq]
    simp [inner_ok, Tm.form, Tm.kids]
    rw [extP_lst (es := c.vars.map D.str) (h := by simp [ic]) (hl := by simp; omega) (hs := by simp)]
    simp
    rw [extP_lst (es := a.vars.map D.str) (h := by simp [ia]) (hl := by simp; omega) (hs := by simp)]
    simp
    rw [extP_lst (es := b.vars.map D.str) (h := by simp [ib]) (hl := by simp; omega) (hs := by simp)]
    simp [Tm.vars]
theorem vars_in_ok (t : Tm) (hd : t.dep ≤ 45) (hp : t.parts ≤ 1000) : Pg.m_vars_in [t.d] = .ok (.lst true ((srtX t.vars).map D.str)) := by
  have l := Tm.vars_le t
  have g : gSortSet (.lst true (t.vars.map D.str)) = some (.lst true ((srtX t.vars).map D.str)) := by
    unfold gSortSet
    simp only [strsD_map, Option.bind_some]
    rw [if_pos (by omega)]
  unfold Pg.m_vars_in
  rw [fnD_eq]
  simp [vars_ok 45 t hd hp, g]
end VL
/-! # VS15: texts as lists, names -/
namespace VL
open PySem PySem.Spec PyProof.Rows L2
def st (l : List Nat) : Str := ⟨l.toArray⟩
@[simp] theorem st_cps (l : List Nat) : (st l).cps.toList = l := by simp [st]
theorem st_inj {a b : List Nat} (h : st a = st b) : a = b := by
  have := congrArg (fun x : Str => x.cps.toList) h
  simpa using this
theorem st_of (x : Str) : st x.cps.toList = x := by
  obtain ⟨a⟩ := x
  simp [st]
@[simp] theorem st_length (l : List Nat) : (st l).length = l.length := by
  show (st l).cps.size = l.length
  simp [st]
@[simp] theorem st_app (a b : List Nat) : st a ++ st b = st (a ++ b) := by
  show (⟨(st a).cps ++ (st b).cps⟩ : Str) = _
  simp [st]
theorem st_one (c : Nat) : (⟨#[c]⟩ : Str) = st [c] := rfl
theorem foldl_app (c : Nat) : ∀ (n : Nat) (acc : Array Nat), (List.replicate n #[c]).foldl (· ++ ·) acc = acc ++ (List.replicate n c).toArray
  | 0, acc => by simp
  | n + 1, acc => by
    rw [List.replicate_succ, List.foldl_cons, foldl_app c n]
    apply Array.toList_inj.mp
    simp [List.replicate_succ]
theorem mul_one (c : Nat) (n : Nat) : Txt.mul (st [c]) (n : Int) = st (List.replicate n c) := by
  unfold Txt.mul
  cases n with
  | zero => rfl
  | succ n =>
    have h1 : ¬ (((n + 1 : Nat) : Int) < 1) := by omega
    rw [if_neg h1]
    cases n with
    | zero => rfl
    | succ n =>
      have h2 : ¬ ((((n + 1 + 1 : Nat) : Int) == 1 || (st [c]).length == 0) = true) := by
        simp; omega
      rw [if_neg h2, Int.toNat_natCast]
      have := foldl_app c (n + 1 + 1) #[]
      show (⟨(List.replicate (n + 1 + 1) #[c]).foldl (· ++ ·) #[]⟩ : Str) = _
      rw [this]
      simp [st]
theorem gMul_st (c n : Nat) (h : n ≤ 1000) : gMulU (.str (st [c])) (.int (n : Int)) = some (.str (st (List.replicate n c))) := by
  show (if (st [c]).length ≤ 1000 ∧ -1000 ≤ (n : Int) ∧ (n : Int) ≤ 1000 then some (D.str (Txt.mul (st [c]) n)) else none) = _
  rw [if_pos ⟨by simp, by omega, by omega⟩, mul_one]
theorem gAdd_st (a b : List Nat) (h : a.length + b.length ≤ 1000) : gAddU (.str (st a)) (.str (st b)) = some (.str (st (a ++ b))) := by
  show (if (st a).length + (st b).length ≤ sizeLine then some (D.str (st a ++ st b)) else none) = _
  have := sizeLine_ge
  rw [if_pos (by simp; omega), st_app]
/-! ### the letters -/
theorem abc_eq : ("abcdefghijklmnopqrstuvwxyz" : Str) = st ((List.range 26).map (97 + ·)) := by decide +kernel
theorem abc_ix (i : Nat) (h : i < 26) : VL.gIx (.str "abcdefghijklmnopqrstuvwxyz") (.int (i : Int)) = some (.str (st [97 + i])) := by
  rw [abc_eq]
  show (if (st ((List.range 26).map (97 + ·))).length ≤ sizeLine then (L2.atI (st ((List.range 26).map (97 + ·))).cps.toList (i : Int)).map (fun c => D.str ⟨#[c]⟩) else none) = _
  have h1 : (st ((List.range 26).map (97 + ·))).length ≤ sizeLine := by
    have := sizeLine_ge
    rw [st_length, List.length_map, List.length_range]; omega
  rw [if_pos h1, st_cps, VL.atI_nat _ _ (by simpa using h)]
  simp [st]
/-! ### names: the second kind -/
def nameL (n k : Nat) : List Nat :=
  if n % 3 = 2 then List.replicate (1 + (3 * k + n / 192) % 7) (97 + n / 192 % 26) ++ List.replicate (k / 7) (97 + (n / 192 % 26 + 1 + n / 4992 % 25) % 26)
  else List.replicate (n / 24 % 8 % (1 + n / 3 % 8)) (97 + n / 192 % 26) ++ (97 + (n / 4992 + 7 * k) % 26) :: List.replicate (n / 3 % 8 - n / 24 % 8 % (1 + n / 3 % 8)) (97 + n / 192 % 26)
def nameS (n k : Nat) : Str := st (nameL n k)
theorem gDiv_nn (a b : Nat) (h : 0 < b) (h2 : b < 2 ^ 250) : gDiv (.int (a : Int)) (.int (b : Int)) = some (.int ((a / b : Nat) : Int)) := by
  rw [gDiv_b (by omega) (by exact_mod_cast h2)]; rfl
theorem gMod_nn (a b : Nat) (h : 0 < b) : gMod (.int (a : Int)) (.int (b : Int)) = some (.int ((a % b : Nat) : Int)) := by
  rw [gMod_i (by omega)]; rfl
theorem name_ok (n k : Nat) (hk : k ≤ 1000) : Lh.m__law_name [.int n, .int k] = .ok (.str (nameS n k)) := by
  have d192 : gDiv (.int (n : Int)) (.int 192) = some (.int ((n / 192 : Nat) : Int)) := gDiv_nn n 192 (by decide) (by decide)
  have d4992 : gDiv (.int (n : Int)) (.int 4992) = some (.int ((n / 4992 : Nat) : Int)) := gDiv_nn n 4992 (by decide) (by decide)
  have d3 : gDiv (.int (n : Int)) (.int 3) = some (.int ((n / 3 : Nat) : Int)) := gDiv_nn n 3 (by decide) (by decide)
  have d24 : gDiv (.int (n : Int)) (.int 24) = some (.int ((n / 24 : Nat) : Int)) := gDiv_nn n 24 (by decide) (by decide)
  have m3 : gMod (.int (n : Int)) (.int 3) = some (.int ((n % 3 : Nat) : Int)) := gMod_nn n 3 (by decide)
  unfold nameS nameL
  generalize n / 192 = q at *
  generalize n / 4992 = q2 at *
  generalize n / 3 = q3 at *
  generalize n / 24 = q4 at *
  have lf : q % 26 < 26 := Nat.mod_lt _ (by decide)
  have m26 : gMod (.int (q : Int)) (.int 26) = some (.int ((q % 26 : Nat) : Int)) := gMod_nn q 26 (by decide)
  generalize q % 26 = f at *
  have fx := abc_ix f lf
  have k7 : gDiv (.int (k : Int)) (.int 7) = some (.int ((k / 7 : Nat) : Int)) := gDiv_nn k 7 (by decide) (by decide)
  unfold Lh.m__law_name
  rw [fnD_eq]
  by_cases h : n % 3 = 2
  · rw [if_pos h]
    rw [h] at m3
    have m25 : gMod (.int (q2 : Int)) (.int 25) = some (.int ((q2 % 25 : Nat) : Int)) := gMod_nn q2 25 (by decide)
    have l25 : q2 % 25 < 25 := Nat.mod_lt _ (by decide)
    generalize q2 % 25 = r at *
    have mo : gMod (.int ((f : Int) + 1 + (r : Int))) (.int 26) = some (.int ((f + 1 + r) % 26 : Nat)) := gMod_nn (f + 1 + r) 26 (by decide)
    have lo : (f + 1 + r) % 26 < 26 := Nat.mod_lt _ (by decide)
    generalize (f + 1 + r) % 26 = o at *
    have ox := abc_ix o lo
    have mk : gMulU (.int 3) (.int (k : Int)) = some (.int (3 * (k : Int))) := gMul_b (by decide) (by decide) (by omega) (by omega)
    have m7 : gMod (.int (3 * (k : Int) + (q : Int))) (.int 7) = some (.int ((3 * k + q) % 7 : Nat)) := gMod_nn (3 * k + q) 7 (by decide)
    have l7 : (3 * k + q) % 7 < 7 := Nat.mod_lt _ (by decide)
    generalize (3 * k + q) % 7 = e at *
    have g1 : gMulU (.str (st [97 + f])) (.int (1 + (e : Int))) = some (.str (st (List.replicate (1 + e) (97 + f)))) := by
      have := gMul_st (97 + f) (1 + e) (by omega)
      rw [show ((1 + e : Nat) : Int) = 1 + (e : Int) from by omega] at this
      exact this
    have lk : k / 7 ≤ 200 := by omega
    generalize k / 7 = g at *
    have g2 := gMul_st (97 + o) g (by omega)
    have g3 := gAdd_st (List.replicate (1 + e) (97 + f)) (List.replicate g (97 + o)) (by simp; omega)
    simp [d192, m26, m3, d4992, m25, mo, ox, fx, mk, m7, k7, g1, g2, g3]
  · rw [if_neg h]
    have h3 : (((n % 3 : Nat) : Int) = 2) = False := by
      apply eq_false; omega
    generalize n % 3 = r3 at *
    have m8 : gMod (.int (q3 : Int)) (.int 8) = some (.int ((q3 % 8 : Nat) : Int)) := gMod_nn q3 8 (by decide)
    have l8 : q3 % 8 < 8 := Nat.mod_lt _ (by decide)
    generalize q3 % 8 = a at *
    have m8' : gMod (.int (q4 : Int)) (.int 8) = some (.int ((q4 % 8 : Nat) : Int)) := gMod_nn q4 8 (by decide)
    generalize q4 % 8 = b at *
    have mb : gMod (.int (b : Int)) (.int (1 + (a : Int))) = some (.int (b % (1 + a) : Nat)) := gMod_nn b (1 + a) (by omega)
    have lb : b % (1 + a) < 1 + a := Nat.mod_lt _ (by omega)
    generalize b % (1 + a) = c at *
    have mk : gMulU (.int 7) (.int (k : Int)) = some (.int (7 * (k : Int))) := gMul_b (by decide) (by decide) (by omega) (by omega)
    have ms : gMod (.int ((q2 : Int) + 7 * (k : Int))) (.int 26) = some (.int ((q2 + 7 * k) % 26 : Nat)) := gMod_nn (q2 + 7 * k) 26 (by decide)
    have ls : (q2 + 7 * k) % 26 < 26 := Nat.mod_lt _ (by decide)
    generalize (q2 + 7 * k) % 26 = s at *
    have sx := abc_ix s ls
    have g1 := gMul_st (97 + f) c (by omega)
    have g2 : gMulU (.str (st [97 + f])) (.int (1 + (a : Int) - 1 - (c : Int))) = some (.str (st (List.replicate (a - c) (97 + f)))) := by
      have := gMul_st (97 + f) (a - c) (by omega)
      rw [show ((a - c : Nat) : Int) = 1 + (a : Int) - 1 - (c : Int) from by omega] at this
      exact this
    have g3 := gAdd_st (List.replicate c (97 + f)) [97 + s] (by simp; omega)
    have g4 := gAdd_st (List.replicate c (97 + f) ++ [97 + s]) (List.replicate (a - c) (97 + f)) (by simp; omega)
    simp only [List.map_cons, List.map_nil, List.length_cons, List.length_nil, List.cons_append, List.nil_append]
    simp [d192, m26, m3, h3, d3, m8, d24, m8', mb, d4992, mk, ms, sx, fx, g1, g2, g3, g4]
theorem mul7 (m k j : Nat) (hk : k ≤ 25) (hj : j ≤ 25) (h : (m + 7 * k) % 26 = (m + 7 * j) % 26) : k = j := by omega
theorem three7 (c k j : Nat) (hk : k < 7) (hj : j < 7) (h : (3 * k + c) % 7 = (3 * j + c) % 7) : k = j := by omega
/-- eleven names are different -/
theorem name_inj (n k j : Nat) (hk : k ≤ 10) (hj : j ≤ 10) (h : nameS n k = nameS n j) : k = j := by
  have h := st_inj h
  unfold nameL at h
  by_cases c : n % 3 = 2
  · rw [if_pos c, if_pos c] at h
    have lr : n / 4992 % 25 < 25 := Nat.mod_lt _ (by decide)
    have lf : n / 192 % 26 < 26 := Nat.mod_lt _ (by decide)
    generalize n / 4992 % 25 = r at *
    generalize n / 192 % 26 = f at *
    generalize n / 192 = q at *
    have c1 := congrArg (List.count (97 + f)) h
    have c2 := congrArg List.length h
    have ne : 97 + f ≠ 97 + (f + 1 + r) % 26 := by omega
    simp only [List.count_append, List.count_replicate, List.length_append, List.length_replicate] at c1 c2
    have ne' : (97 + (f + 1 + r) % 26 == 97 + f) = false := by simpa using fun e => ne (by omega)
    simp only [ne', beq_self_eq_true, if_true, Bool.false_eq_true, if_false, Nat.add_zero] at c1
    have e1 : k / 7 = j / 7 := by omega
    have e2 : (3 * k + q) % 7 = (3 * j + q) % 7 := by omega
    omega
  · rw [if_neg c, if_neg c] at h
    have h2 := (List.append_inj h rfl).2
    have h3 := List.cons.inj h2
    exact mul7 (n / 4992) k j (by omega) (by omega) (by omega)
/-- a name is of letters, one to eight -/
def Nm (x : Str) : Prop := (∀ c ∈ x.cps.toList, 97 ≤ c ∧ c < 123) ∧ 1 ≤ x.length ∧ x.length ≤ 8
theorem nameS_nm (n k : Nat) (hk : k ≤ 10) : Nm (nameS n k) := by
  unfold nameS Nm
  rw [st_cps, st_length]
  have lf : n / 192 % 26 < 26 := Nat.mod_lt _ (by decide)
  unfold nameL
  by_cases c : n % 3 = 2
  · rw [if_pos c]
    have lr : n / 4992 % 25 < 25 := Nat.mod_lt _ (by decide)
    have l7 : (3 * k + n / 192) % 7 < 7 := Nat.mod_lt _ (by decide)
    refine ⟨fun x hx => ?_, ?_, ?_⟩
    · rcases List.mem_append.mp hx with hx | hx
      · have := List.eq_of_mem_replicate hx; omega
      · have := List.eq_of_mem_replicate hx; omega
    · rw [List.length_append, List.length_replicate, List.length_replicate]; omega
    · rw [List.length_append, List.length_replicate, List.length_replicate]; omega
  · rw [if_neg c]
    have l8 : n / 3 % 8 < 8 := Nat.mod_lt _ (by decide)
    have lb : n / 24 % 8 % (1 + n / 3 % 8) < 1 + n / 3 % 8 := Nat.mod_lt _ (by omega)
    refine ⟨fun x hx => ?_, ?_, ?_⟩
    · rcases List.mem_append.mp hx with hx | hx
      · have := List.eq_of_mem_replicate hx; omega
      · rcases List.mem_cons.mp hx with hx | hx
        · omega
        · have := List.eq_of_mem_replicate hx; omega
    · rw [List.length_append, List.length_cons, List.length_replicate, List.length_replicate]; omega
    · rw [List.length_append, List.length_cons, List.length_replicate, List.length_replicate]; omega
end VL
/-! # VS16: the laws' heap of terms -/
namespace VL
open PySem PySem.Spec PyProof.Rows L2
theorem Nm.ok {x : Str} (h : Nm x) : PyData.strOk x = true := by
  unfold PyData.strOk
  rw [← Array.all_toList, List.all_eq_true]
  intro c hc
  have := h.1 c hc
  exact decide_eq_true (by omega)
theorem atI_map {α : Type} (f : α → D) (xs : List α) (i : Nat) (h : i < xs.length) : L2.atI (xs.map f) (i : Int) = some (f xs[i]) := by
  rw [VL.atI_nat _ _ (by simpa using h)]; simp
theorem gLen_map {α : Type} (f : α → D) (m : Bool) (xs : List α) : gLen [.nd .lst m (xs.map f)] = some (.int xs.length) := by
  rw [gLen_lst, List.length_map]
theorem gMod_in {n m : Int} (h : 0 < m) : ∃ r : Nat, gMod (.int n) (.int m) = some (.int r) ∧ (r : Int) = n % m ∧ (r : Int) < m := by
  have h0 := Int.emod_nonneg n (Int.ne_of_gt h)
  have h1 := Int.emod_lt_of_pos n h
  refine ⟨(n % m).toNat, ?_, by omega, by omega⟩
  rw [gMod_i h, show ((n % m).toNat : Int) = n % m from by omega]
theorem gMod_lit {n : Int} (m : Nat) (h : 0 < m) : ∃ r : Nat, gMod (.int n) (.int (m : Int)) = some (.int r) ∧ (r : Int) = n % m ∧ r < m := by
  obtain ⟨r, h1, h2, h3⟩ := gMod_in (n := n) (m := m) (by omega)
  exact ⟨r, h1, h2, by omega⟩
/-- what a leaf is -/
def Leafy (names : List Str) (t : Tm) : Prop := (∃ n, t = .num n) ∨ ∃ x ∈ names, t = .var x
theorem pow10_40 : gPow (.int 10) (.int 40) = some (.int 10000000000000000000000000000000000000000) := by
  rw [gPow_i (by decide) (by decide) (by decide)]; rfl
theorem pow10_60 : gPow (.int 10) (.int 60) = some (.int 1000000000000000000000000000000000000000000000000000000000000) := by
  rw [gPow_i (by decide) (by decide) (by decide)]; rfl
theorem leaf_ok (n : Int) (names : List Str) (hn : ∀ x ∈ names, Nm x) : ∃ t, Lh.m__law_leaf [.int n, .nd .lst false (names.map D.str)] = .ok t.d ∧ Leafy names t := by
  obtain ⟨r4, m4, _, l4⟩ := gMod_lit (n := n) 4 (by decide)
  obtain ⟨r2, m2, _, l2⟩ := gMod_lit (n := n) 2 (by decide)
  have m4' : gMod (.int n) (.int 4) = some (.int r4) := m4
  have m2' : gMod (.int n) (.int 2) = some (.int r2) := m2
  have d4 : gDiv (.int n) (.int 4) = some (.int (n / 4)) := gDiv_i (by decide) (by decide)
  generalize n / 4 = q at *
  have en : eqU (.nd .lst false (names.map D.str)) (.nd .lst true []) = some (decide (names = [])) := by
    rw [eqU_nd, eqD_strs_nil _ _ fun x hx => (hn x hx).ok]; rfl
  have gl := gLen_map D.str false names
  obtain ⟨r11, m11, _, l11⟩ := gMod_lit (n := q) 11 (by decide)
  have m11' : gMod (.int q) (.int 11) = some (.int r11) := m11
  obtain ⟨rb, mb, _, lb⟩ := gMod_in (n := q) (m := 20000000000000000000000000000000000000000) (by decide)
  have mu : gMulU (.int 2) (.int 10000000000000000000000000000000000000000) = some (.int 20000000000000000000000000000000000000000) := gMul_b (i := 2) (j := 10000000000000000000000000000000000000000) (by decide) (by decide) (by decide) (by decide)
  unfold Lh.m__law_leaf
  rw [fnD_eq]
  have fz : frzL (names.map D.str) = names.map D.str := by simp
  by_cases c : r4 < 2 ∧ names ≠ []
  · obtain ⟨c1, c2⟩ := c
    have hl : 0 < names.length := List.length_pos_iff.mpr c2
    obtain ⟨rn, mn, _, ln⟩ := gMod_in (n := q) (m := (names.length : Int)) (by omega)
    have ai := atI_map D.str names rn (by omega)
    have c1' : (r4 : Int) < 2 := by omega
    refine ⟨.var names[rn], ?_, .inr ⟨_, List.getElem_mem _, rfl⟩⟩
    simp [m4', c1', en, c2, d4, gl, mn, ai, Tm.d]
  · have c' : ¬ ((r4 : Int) < 2 ∧ ¬ names = []) := by
      intro q; exact c ⟨by omega, q.2⟩
    rcases (show r2 = 0 ∨ r2 = 1 by omega) with h | h
    · subst h
      refine ⟨.num (r11 - 5), ?_, .inl ⟨_, rfl⟩⟩
      by_cases c1 : (r4 : Int) < 2
      · have c2 : names = [] := Classical.byContradiction fun q => c' ⟨c1, q⟩
        have en' : eqU (.nd .lst false (names.map D.str)) (.nd .lst true []) = some true := by rw [en]; simp [c2]
        simp [m4', m2', c1, en', d4, m11', pow10_40, mu, mb, Tm.d]
      · simp [m4', m2', c1, en, d4, m11', pow10_40, mu, mb, Tm.d]
    · subst h
      refine ⟨.num (rb - 10000000000000000000000000000000000000000), ?_, .inl ⟨_, rfl⟩⟩
      by_cases c1 : (r4 : Int) < 2
      · have c2 : names = [] := Classical.byContradiction fun q => c' ⟨c1, q⟩
        have en' : eqU (.nd .lst false (names.map D.str)) (.nd .lst true []) = some true := by rw [en]; simp [c2]
        simp [m4', m2', c1, en', d4, m11', pow10_40, mu, mb, Tm.d]
      · simp [m4', m2', c1, en, d4, m11', pow10_40, mu, mb, Tm.d]
def tri (t : Tm) : D := .tup [t.d, .int t.parts, .int t.dep]
@[simp] theorem tri_shr (t : Tm) : VL.shr (tri t) = true := by simp [tri]
@[simp] theorem tri_own (t : Tm) : VL.own (tri t) = true := by simp [tri]
@[simp] theorem tri_frz (t : Tm) : VL.frz (tri t) = tri t := by simp [tri]
theorem gSl_map {α : Type} {f : α → D} (hf : ∀ x, VL.shr (f x) = true) (m : Bool) (xs : List α) (lo hi : Option Int) : gSl (.nd .lst m (xs.map f)) lo hi = some (.lst true ((cutA xs lo hi).map f)) := by
  rw [gSl_lst _ _ _ _ (by rw [cutA_map]; exact shrL_map hf _), cutA_map]
theorem formsAt (r : Nat) (h : r < 10) : ∃ (f : Str) (k : Nat), L2.atI [D.str "", .str "", .str "", .str "plus", .str "minus", .str "times", .str "less", .str "same", .str "pick", .str "pick"] (r : Int) = some (.str f) ∧
    L2.atI [D.int 0, .int 0, .int 0, .int 2, .int 2, .int 2, .int 2, .int 2, .int 3, .int 3] (r : Int) = some (.int k) ∧ (k = 0 ∨ (k = 2 ∧ ∃ o : Op2, f = o.nm) ∨ (k = 3 ∧ f = "pick")) := by
  rcases (show r = 0 ∨ r = 1 ∨ r = 2 ∨ r = 3 ∨ r = 4 ∨ r = 5 ∨ r = 6 ∨ r = 7 ∨ r = 8 ∨ r = 9 by omega) with h | h | h | h | h | h | h | h | h | h <;> subst h
  · exact ⟨_, 0, rfl, rfl, .inl rfl⟩
  · exact ⟨_, 0, rfl, rfl, .inl rfl⟩
  · exact ⟨_, 0, rfl, rfl, .inl rfl⟩
  · exact ⟨_, 2, rfl, rfl, .inr (.inl ⟨rfl, .plus, rfl⟩)⟩
  · exact ⟨_, 2, rfl, rfl, .inr (.inl ⟨rfl, .minus, rfl⟩)⟩
  · exact ⟨_, 2, rfl, rfl, .inr (.inl ⟨rfl, .times, rfl⟩)⟩
  · exact ⟨_, 2, rfl, rfl, .inr (.inl ⟨rfl, .less, rfl⟩)⟩
  · exact ⟨_, 2, rfl, rfl, .inr (.inl ⟨rfl, .same, rfl⟩)⟩
  · exact ⟨_, 3, rfl, rfl, .inr (.inr ⟨rfl, rfl⟩)⟩
  · exact ⟨_, 3, rfl, rfl, .inr (.inr ⟨rfl, rfl⟩)⟩
theorem cutA_tail {α : Type} (G K : List α) : cutA (G ++ K) (some (((G ++ K).length : Int) - (K.length : Int))) none = K := by
  have e : (((G ++ K).length : Int) - (K.length : Int)) = ((G.length : Nat) : Int) := by simp
  rw [e, cutA_lo]; simp
theorem cutA_head {α : Type} (G K : List α) : cutA (G ++ K) none (some (((G ++ K).length : Int) - (K.length : Int))) = G := by
  have e : (((G ++ K).length : Int) - (K.length : Int)) = ((G.length : Nat) : Int) := by simp
  rw [e, cutA_hi]; simp
theorem max2 (x y : Int) : gMax1 [.nd .lst true [.int x, .int y]] = some (.int (if y > x then y else x)) := gOnInts_eq maxG true [x, y]
theorem max3 (x y z : Int) : gMax1 [.nd .lst true [.int x, .int y, .int z]] = some (.int (maxI [x, y, z])) := gOnInts_eq maxG true [x, y, z]
theorem sum2 (x y : Int) : gSum [.nd .lst true [.int x, .int y]] = some (.int ([x, y].sum)) := gOnInts_eq sumG true [x, y]
theorem sum3 (x y z : Int) : gSum [.nd .lst true [.int x, .int y, .int z]] = some (.int ([x, y, z].sum)) := gOnInts_eq sumG true [x, y, z]
theorem Leafy.dep {names : List Str} {t : Tm} (h : Leafy names t) : t.dep = 1 ∧ t.parts = 1 ∧ ∀ x ∈ t.vars, x ∈ names := by
  rcases h with ⟨n, rfl⟩ | ⟨x, hx, rfl⟩
  · exact ⟨rfl, rfl, fun x hx => by cases hx⟩
  · exact ⟨rfl, rfl, fun y hy => by rw [List.mem_singleton.mp hy]; exact hx⟩
/-- what is known of the heap behind i cells -/
structure HeapOk (names : List Str) (i : Nat) (H : List Tm) : Prop where
  dep : ∀ t ∈ H, t.dep ≤ 40
  vars : ∀ t ∈ H, ∀ x ∈ t.vars, x ∈ names
  parts : (H.map Tm.parts).sum ≤ i
theorem HeapOk.len {names : List Str} {i : Nat} {H : List Tm} (h : HeapOk names i H) : H.length ≤ i := by
  have : ∀ L : List Tm, L.length ≤ (L.map Tm.parts).sum := fun L => by
    induction L with
    | nil => simp
    | cons t L ih =>
      have : 1 ≤ t.parts := by cases t <;> simp [Tm.parts]
      simp; omega
  exact Nat.le_trans (this H) h.parts
theorem HeapOk.leaf {names : List Str} {i : Nat} {H : List Tm} (h : HeapOk names i H) {t : Tm} (l : Leafy names t) : HeapOk names (i + 1) (H ++ [t]) := by
  obtain ⟨d, p, v⟩ := l.dep
  have hp := h.parts
  refine ⟨fun u hu => ?_, fun u hu => ?_, by simp [p]; omega⟩
  · rcases List.mem_append.mp hu with hu | hu
    · exact h.dep u hu
    · rw [List.mem_singleton.mp hu, d]; decide
  · rcases List.mem_append.mp hu with hu | hu
    · exact h.vars u hu
    · rw [List.mem_singleton.mp hu]; exact v
theorem HeapOk.two {names : List Str} {i : Nat} {G : List Tm} {a b : Tm} (o : Op2) (h : HeapOk names i (G ++ [a, b])) (hd : a.dep < 40 ∧ b.dep < 40) : HeapOk names (i + 1) (G ++ [.two o a b]) := by
  have hp := h.parts
  simp at hp
  refine ⟨fun u hu => ?_, fun u hu => ?_, by simp [Tm.parts]; omega⟩
  · rcases List.mem_append.mp hu with hu | hu
    · exact h.dep u (List.mem_append_left _ hu)
    · rw [List.mem_singleton.mp hu]; simp [Tm.dep]; omega
  · rcases List.mem_append.mp hu with hu | hu
    · exact h.vars u (List.mem_append_left _ hu)
    · rw [List.mem_singleton.mp hu]
      intro x hx
      rcases List.mem_append.mp hx with hx | hx
      · exact h.vars a (by simp) x hx
      · exact h.vars b (by simp) x hx
theorem HeapOk.pick {names : List Str} {i : Nat} {G : List Tm} {c a b : Tm} (h : HeapOk names i (G ++ [c, a, b])) (hd : c.dep < 40 ∧ a.dep < 40 ∧ b.dep < 40) : HeapOk names (i + 1) (G ++ [.pick c a b]) := by
  have hp := h.parts
  simp at hp
  refine ⟨fun u hu => ?_, fun u hu => ?_, by simp [Tm.parts]; omega⟩
  · rcases List.mem_append.mp hu with hu | hu
    · exact h.dep u (List.mem_append_left _ hu)
    · rw [List.mem_singleton.mp hu]; simp [Tm.dep]; omega
  · rcases List.mem_append.mp hu with hu | hu
    · exact h.vars u (List.mem_append_left _ hu)
    · rw [List.mem_singleton.mp hu]
      intro x hx
      rcases List.mem_append.mp hx with hx | hx
      · rcases List.mem_append.mp hx with hx | hx
        · exact h.vars c (by simp) x hx
        · exact h.vars a (by simp) x hx
      · exact h.vars b (by simp) x hx
theorem gAdd_tup' {m m' : Bool} (x : D) {ys : List D} (h1 : VL.shr x = true) (h2 : shrL ys = true) (h3 : ys.length ≤ 10) : gAddU (.nd .tup m [x]) (.nd .tup m' ys) = some (.tup (x :: ys)) :=
  gAdd_tup (by simp [h1]) h2 (by simp) (by simp; omega)
theorem split_two {α : Type} (H : List α) (h : 2 ≤ H.length) : ∃ G a b, H = G ++ [a, b] := by
  have e := List.take_append_drop (H.length - 2) H
  have l : (H.drop (H.length - 2)).length = 2 := by simp; omega
  match hd : H.drop (H.length - 2), l with
  | [a, b], _ => exact ⟨_, a, b, by rw [← hd, e]⟩
theorem split_three {α : Type} (H : List α) (h : 3 ≤ H.length) : ∃ G a b c, H = G ++ [a, b, c] := by
  have e := List.take_append_drop (H.length - 3) H
  have l : (H.drop (H.length - 3)).length = 3 := by simp; omega
  match hd : H.drop (H.length - 3), l with
  | [a, b, c], _ => exact ⟨_, a, b, c, by rw [← hd, e]⟩
theorem gIx_tri (t : Tm) : gIx (tri t) (.int 0) = some t.d ∧ gIx (tri t) (.int 1) = some (.int t.parts) ∧ gIx (tri t) (.int 2) = some (.int t.dep) := ⟨rfl, rfl, rfl⟩
theorem gTuple_tup' {m : Bool} {xs : List D} (h : shrL xs = true) : gTuple [.nd .lst m xs] = some (.tup xs) := gTuple_lst m xs h
theorem maxI3 (x y z : Nat) : ∃ M : Nat, maxI [(x : Int), y, z] = (M : Int) ∧ x ≤ M ∧ y ≤ M ∧ z ≤ M ∧ (M = x ∨ M = y ∨ M = z) := by
  refine ⟨max (max x y) z, ?_, by omega, by omega, by omega, by omega⟩
  simp [maxI]
  (repeat' split) <;> omega
theorem heap_turn (names : List Str) (hn : ∀ x ∈ names, Nm x) (i : Nat) (hi : i ≤ 200) (H : List Tm) (h : HeapOk names i H) (c : Int) (cs e4 e5 e6 e7 e8 e9 : Option D) :
    ∃ H' f4 f5 f6 f7 f8, HeapOk names (i + 1) H' ∧ Lh.b__law_heap_0 [cs, some (.nd .lst false (names.map D.str)), some (.lst true (H.map tri)), some (.int c), e4, e5, e6, e7, e8, e9] =
      .nx [cs, some (.nd .lst false (names.map D.str)), some (.lst true (H'.map tri)), some (.int c), f4, f5, f6, f7, f8, e9] := by
  have hlen := h.len
  obtain ⟨r, mr, _, lr⟩ := gMod_lit (n := c) 10 (by decide)
  have mr' : gMod (.int c) (.int 10) = some (.int r) := mr
  obtain ⟨f, k, hf, hk, hc⟩ := formsAt r lr
  have d10 : gDiv (.int c) (.int 10) = some (.int (c / 10)) := gDiv_i (by decide) (by decide)
  generalize c / 10 = q at *
  obtain ⟨n, mn, _, _⟩ := gMod_in (n := q) (m := 1000000000000000000000000000000000000000000000000000000000000) (by decide)
  obtain ⟨t, ht, hl⟩ := leaf_ok n names hn
  have gl := gLen_map tri true H
  have hsz := sizeLine_ge
  have app : ∀ L : List Tm, L.length ≤ 300 → (L.map tri).length < sizeLine := fun L hL => by rw [List.length_map]; omega
  have tl : tri t = .tup [t.d, .int 1, .int 1] := by
    obtain ⟨d, p, _⟩ := hl.dep
    simp [tri, d, p]
  have s0 := gSl_map tri_shr true H (some ((H.length : Int) - (k : Int))) none
  unfold Lh.b__law_heap_0
  have aH : H.length < sizeLine := by omega
  have ad := h.dep
  have ap := h.parts
  by_cases hk0 : 0 < (k : Int) ∧ (k : Int) ≤ H.length
  · rcases hc with hc | ⟨rfl, o, rfl⟩ | ⟨rfl, rfl⟩
    · omega
    · obtain ⟨G, a, b, rfl⟩ := split_two H (by omega)
      have s1 := gSl_map tri_shr true (G ++ [a, b]) none (some (((G ++ [a, b]).length : Int) - ((2 : Nat) : Int)))
      have e0 := cutA_tail G [a, b]
      have e1 := cutA_head G [a, b]
      simp only [List.length_cons, List.length_nil] at e0 e1
      simp only [e0] at s0
      simp only [e1] at s1
      have da := ad a (by simp)
      have db := ad b (by simp)
      have hp1 : (([a, b].map Tm.parts).sum : Nat) ≤ 200 := by simp at ap ⊢; omega
      simp at hp1
      obtain ⟨M, hM, hM1, hM2⟩ : ∃ M : Nat, (if (b.dep : Int) > a.dep then (b.dep : Int) else a.dep) = (M : Int) ∧ a.dep ≤ M ∧ b.dep ≤ M ∧ (M = a.dep ∨ M = b.dep) := by
        by_cases q : (b.dep : Int) > a.dep
        · exact ⟨b.dep, by rw [if_pos q], by omega, by omega, .inr rfl⟩
        · exact ⟨a.dep, by rw [if_neg q], by omega, by omega, .inl rfl⟩
      have hm := max2 a.dep b.dep
      rw [hM] at hm
      have hG : G.length < sizeLine := by simp at hlen; omega
      have H2 : (2 : Int) ≤ (G ++ [a, b]).length := by omega
      have tw := fun q => h.two o (G := G) (a := a) (b := b) q
      generalize G ++ [a, b] = H at *
      have gi := gIx_tri
      have s0' : gSl (.nd .lst true (H.map tri)) (some ((H.length : Int) - 2)) none = some (.lst true [tri a, tri b]) := s0
      have s1' : gSl (.nd .lst true (H.map tri)) none (some ((H.length : Int) - 2)) = some (.lst true (G.map tri)) := s1
      have hk' : atI [D.int 0, D.int 0, D.int 0, D.int 2, D.int 2, D.int 2, D.int 2, D.int 2, D.int 3, D.int 3] r = some (D.int 2) := hk
      have smm := sum2 a.parts b.parts
      have gt : gTuple [.nd .lst true [a.d, b.d]] = some (.tup [a.d, b.d]) := gTuple_tup' (by simp)
      have gd : gAddU (.tup [.str o.nm]) (.tup [a.d, b.d]) = some (.tup [.str o.nm, a.d, b.d]) := gAdd_tup' (.str o.nm) rfl (by simp) (by simp)
      by_cases q : (M : Int) < 40
      · refine ⟨G ++ [.two o a b], ?_⟩
        have tt : tri (.two o a b) = .tup [.tup [.str o.nm, a.d, b.d], .int (1 + ((a.parts : Int) + b.parts)), .int (1 + (M : Int))] := by
          simp [tri, Tm.d, Tm.parts, Tm.dep]
          omega
        have gl2 : G.length < sizeLine := hG
        simp [mr', hf, hk', d10, pow10_60, mn, ht, gl, s0', s1', aH, hm, q, gi, H2, smm, gt, gd, gl2, tt]
        exact tw ⟨by omega, by omega⟩
      · simp [mr', hf, hk', d10, pow10_60, mn, ht, gl, s0', s1', aH, hm, q, gi, H2]
        exact ⟨H ++ [t], h.leaf hl, by simp [tl]⟩
    · obtain ⟨G, cc, a, b, rfl⟩ := split_three H (by omega)
      have s1 := gSl_map tri_shr true (G ++ [cc, a, b]) none (some (((G ++ [cc, a, b]).length : Int) - ((3 : Nat) : Int)))
      have e0 := cutA_tail G [cc, a, b]
      have e1 := cutA_head G [cc, a, b]
      simp only [List.length_cons, List.length_nil] at e0 e1
      simp only [e0] at s0
      simp only [e1] at s1
      have dc := ad cc (by simp)
      have da := ad a (by simp)
      have db := ad b (by simp)
      have hp1 : (([cc, a, b].map Tm.parts).sum : Nat) ≤ 200 := by simp at ap ⊢; omega
      simp at hp1
      obtain ⟨M, hM, hM0, hM1, hM2, hM3⟩ := maxI3 cc.dep a.dep b.dep
      have hm := max3 cc.dep a.dep b.dep
      rw [hM] at hm
      have hG : G.length < sizeLine := by simp at hlen; omega
      have H2 : (3 : Int) ≤ (G ++ [cc, a, b]).length := by omega
      have tw := fun q => h.pick (G := G) (c := cc) (a := a) (b := b) q
      generalize G ++ [cc, a, b] = H at *
      have gi := gIx_tri
      have s0' : gSl (.nd .lst true (H.map tri)) (some ((H.length : Int) - 3)) none = some (.lst true [tri cc, tri a, tri b]) := s0
      have s1' : gSl (.nd .lst true (H.map tri)) none (some ((H.length : Int) - 3)) = some (.lst true (G.map tri)) := s1
      have hk' : atI [D.int 0, D.int 0, D.int 0, D.int 2, D.int 2, D.int 2, D.int 2, D.int 2, D.int 3, D.int 3] r = some (D.int 3) := hk
      have smm := sum3 cc.parts a.parts b.parts
      have gt : gTuple [.nd .lst true [cc.d, a.d, b.d]] = some (.tup [cc.d, a.d, b.d]) := gTuple_tup' (by simp)
      have gd : gAddU (.tup [.str "pick"]) (.tup [cc.d, a.d, b.d]) = some (.tup [.str "pick", cc.d, a.d, b.d]) := gAdd_tup' (.str "pick") rfl (by simp) (by simp)
      by_cases q : (M : Int) < 40
      · refine ⟨G ++ [.pick cc a b], ?_⟩
        have tt : tri (.pick cc a b) = .tup [.tup [.str "pick", cc.d, a.d, b.d], .int (1 + ((cc.parts : Int) + (a.parts + b.parts))), .int (1 + (M : Int))] := by
          simp [tri, Tm.d, Tm.parts, Tm.dep]
          omega
        have gl2 : G.length < sizeLine := hG
        simp [mr', hf, hk', d10, pow10_60, mn, ht, gl, s0', s1', aH, hm, q, gi, H2, smm, gt, gd, gl2, tt]
        exact tw ⟨by omega, by omega, by omega⟩
      · simp [mr', hf, hk', d10, pow10_60, mn, ht, gl, s0', s1', aH, hm, q, gi, H2]
        exact ⟨H ++ [t], h.leaf hl, by simp [tl]⟩
  · generalize (cutA H (some ((H.length : Int) - (k : Int))) none).map tri = sm at *
    by_cases hk1 : 0 < k
    · have hk2 : ¬ (k ≤ H.length) := fun q => hk0 ⟨by omega, by omega⟩
      simp [mr', hf, hk, d10, pow10_60, mn, ht, gl, s0, hk1, hk2, aH]
      exact ⟨H ++ [t], h.leaf hl, by simp [tl]⟩
    · have hk2 : k = 0 := by omega
      subst hk2
      have s0' : gSl (.nd .lst true (H.map tri)) (some (H.length : Int)) none = some (.lst true sm) := by simpa using s0
      simp [mr', hf, hk, d10, pow10_60, mn, ht, gl, s0', aH]
      exact ⟨H ++ [t], h.leaf hl, by simp [tl]⟩
/-- all turns of the heap's loop -/
theorem heap_loop (names : List Str) (hn : ∀ x ∈ names, Nm x) (cs : List Int) (i : Nat) (hi : i + cs.length ≤ 200) (H : List Tm) (h : HeapOk names i H) (e0 e3 e4 e5 e6 e7 e8 e9 : Option D) :
    ∃ H' f3 f4 f5 f6 f7 f8, HeapOk names (i + cs.length) H' ∧ forL (gtName 3) Lh.b__law_heap_0 (cs.map D.int) [e0, some (.nd .lst false (names.map D.str)), some (.lst true (H.map tri)), e3, e4, e5, e6, e7, e8, e9] =
      .nx [e0, some (.nd .lst false (names.map D.str)), some (.lst true (H'.map tri)), f3, f4, f5, f6, f7, f8, e9] := by
  induction cs generalizing i H e3 e4 e5 e6 e7 e8 with
  | nil => exact ⟨H, _, _, _, _, _, _, h, id rfl⟩
  | cons c cs ih =>
    obtain ⟨H1, g4, g5, g6, g7, g8, h1, w1⟩ := heap_turn names hn i (by simp at hi; omega) H h c e0 e4 e5 e6 e7 e8 e9
    obtain ⟨H2, r3, r4, r5, r6, r7, r8, h2, w2⟩ := ih (i + 1) (by simp at hi; omega) H1 h1 (some (.int c)) g4 g5 g6 g7 g8
    refine ⟨H2, r3, r4, r5, r6, r7, r8, by simpa [Nat.add_assoc, Nat.add_comm 1] using h2, ?_⟩
    rw [List.map_cons, forL_cons]
    simp [w1, w2]
end VL
/-! # VS17: the laws' heap, ended; cells of a script; names; equality of plain things -/
namespace VL
open PySem PySem.Spec PyProof.Rows L2
theorem nbL_of {ds : List D} (h : ∀ d ∈ ds, nb d = true) : nbL ds = true := by
  induction ds with
  | nil => rfl
  | cons d ds ih => rw [nbL, h d (by simp), ih fun x hx => h x (by simp [hx])]; rfl
theorem depL_of {ds : List D} {n : Nat} (h : ∀ d ∈ ds, VL.dep d ≤ n) : depL ds ≤ n := by
  induction ds with
  | nil => exact Nat.zero_le _
  | cons d ds ih =>
    rw [depL]
    have := h d (by simp)
    have := ih fun x hx => h x (by simp [hx])
    omega
theorem eqU_nb {k : Kd} {m : Bool} {ds : List D} {b : D} (h1 : nb (.nd k m ds) = true) (h2 : nb b = true) (d1 : VL.dep (.nd k m ds) ≤ 64) (d2 : VL.dep b ≤ 64) : eqU (.nd k m ds) b = some (decide (VL.frz (.nd k m ds) = VL.frz b)) := by
  rw [eqU_nd, eqD_nb h1 h2 d1 d2]; rfl
theorem frzL_length (ds : List D) : (frzL ds).length = ds.length := by
  induction ds with
  | nil => rfl
  | cons d ds ih => rw [frzL]; simp [ih]
theorem eqU_lst_nil {α : Type} {f : α → D} (m m' : Bool) (xs : List α) (h : ∀ x ∈ xs, nb (f x) = true ∧ VL.dep (f x) ≤ 63) : eqU (.nd .lst m (xs.map f)) (.nd .lst m' []) = some (decide (xs = [])) := by
  rw [eqU_nb (by rw [nb]; exact nbL_of fun d hd => by obtain ⟨x, hx, rfl⟩ := List.mem_map.mp hd; exact (h x hx).1) rfl
    (by rw [VL.dep]; have := depL_of (n := 63) fun d hd => by obtain ⟨x, hx, rfl⟩ := List.mem_map.mp hd; exact (h x hx).2
        omega) (by rw [VL.dep, depL]; decide)]
  congr 1
  rw [decide_eq_decide, frz_nd, frz_nd]
  constructor
  · intro e
    injection e with _ _ e
    have := congrArg List.length e
    rw [frzL_length, List.length_map] at this
    exact List.eq_nil_of_length_eq_zero this
  · rintro rfl; rfl
theorem Op2.ok (o : Op2) : PyData.strOk o.nm = true := by cases o <;> decide +kernel
theorem Tm.nb_d : ∀ t : Tm, (∀ x ∈ t.vars, Nm x) → nb t.d = true
  | .num n, _ => by
    have : PyData.strOk "num" = true := by decide +kernel
    simp [Tm.d, nb, nbL, this]
  | .var x, h => by
    have e : PyData.strOk "var" = true := by decide +kernel
    have := (h x (by simp [Tm.vars])).ok
    simp [Tm.d, nb, nbL, this, e]
  | .two o a b, h => by
    have ha := Tm.nb_d a fun x hx => h x (List.mem_append_left _ hx)
    have hb := Tm.nb_d b fun x hx => h x (List.mem_append_right _ hx)
    have := o.ok
    simp [Tm.d, nb, nbL, ha, hb, this]
  | .pick c a b, h => by
    have hc := Tm.nb_d c fun x hx => h x (List.mem_append_left _ (List.mem_append_left _ hx))
    have ha := Tm.nb_d a fun x hx => h x (List.mem_append_left _ (List.mem_append_right _ hx))
    have hb := Tm.nb_d b fun x hx => h x (List.mem_append_right _ hx)
    have : PyData.strOk "pick" = true := by decide +kernel
    simp [Tm.d, nb, nbL, ha, hb, hc, this]
theorem Tm.dep_d : ∀ t : Tm, VL.dep t.d = t.dep
  | .num n => rfl
  | .var x => rfl
  | .two o a b => by
    have ha := Tm.dep_d a
    have hb := Tm.dep_d b
    simp [Tm.d, VL.dep, depL, Tm.dep, ha, hb]
  | .pick c a b => by
    have ha := Tm.dep_d a
    have hb := Tm.dep_d b
    have hc := Tm.dep_d c
    simp [Tm.d, VL.dep, depL, Tm.dep, ha, hb, hc]
def cellAt (ns : List Int) (k : Nat) : Int := if h : k < ns.length then ns[k] else 0
theorem cell_at_ok (ns : List Int) (k : Nat) : Lh.m__law_cell_at [.nd .lst false (ns.map D.int), .int (k : Int)] = .ok (.int (cellAt ns k)) := by
  have gl := gLen_map D.int false ns
  unfold Lh.m__law_cell_at cellAt
  rw [fnD_eq]
  by_cases h : k < ns.length
  · have ai := atI_map D.int ns k h
    simp [gl, h, ai]
  · simp [gl, h]
theorem whole_int (n : Int) : Lh.m__law_whole [.int n] = .ok (.bl true) := by
  unfold Lh.m__law_whole
  rw [fnD_eq]
  simp
def namesOf (n k : Nat) : List Str := (List.range k).map (nameS n)
theorem namesOf_nm (n k : Nat) (hk : k ≤ 10) : ∀ x ∈ namesOf n k, Nm x := fun x hx => by
  obtain ⟨i, hi, rfl⟩ := List.mem_map.mp hx
  exact nameS_nm n i (by have := List.mem_range.mp hi; omega)
theorem names_comp {f : Fb} {s : Slots} {i j n k : Nat} (hij : i ≠ j) (hj : j < s.length) (hf : f s = .ok (.int k)) (hk : k ≤ 10) (hs : s[i]? = some (some (.int n))) :
    bLcR1 f (gtName j) cYes (bCall Lh.m__law_name (bCons (bVar i) (bCons (bVar j) bNil))) [j] s = .ok (.lst true ((namesOf n k).map D.str)) := by
  have e : compL (gtName j) cYes (bCall Lh.m__law_name (bCons (bVar i) (bCons (bVar j) bNil))) [j] ((List.range k).map fun i => .int (i : Nat)) s = .ok ((List.range k).map fun i => .str (nameS n i)) :=
    compL_map _ _ _ fun x hx => by
      have hx := List.mem_range.mp hx
      refine ⟨_, rfl, ?_⟩
      have b1 : bVar i (s.set j (some (.int (x : Nat)))) = .ok (.int n) := by
        unfold bVar; rw [List.getElem?_set_ne (Ne.symm hij), hs]
      have b2 : bVar j (s.set j (some (.int (x : Nat)))) = .ok (.int (x : Nat)) := by
        unfold bVar; rw [List.getElem?_set_self hj]
      have nm := name_ok n x (by omega)
      simp [bCall, bCons, bNil, b1, b2, nm]
  have := bLcR1_eq hf (by omega) e (by simp; omega)
  rw [this]
  simp [namesOf]
@[simp] theorem frzL_tri (H : List Tm) : frzL (H.map tri) = H.map tri := by
  rw [frzL_map, List.map_map]
  exact List.map_congr_left fun t _ => tri_frz t
theorem heap_ok (names : List Str) (hn : ∀ x ∈ names, Nm x) (cs : List Int) (hl : cs.length ≤ 120) :
    ∃ H, HeapOk names 121 H ∧ Lh.m__law_heap [.nd .lst false (cs.map D.int), .nd .lst false (names.map D.str)] = .ok (.lst true (H.map tri)) := by
  obtain ⟨H, f3, f4, f5, f6, f7, f8, h, w⟩ := heap_loop names hn cs 0 (by omega) [] ⟨by simp, by simp, by simp⟩ (some (.nd .lst false (cs.map D.int))) none none none none none none none
  obtain ⟨t, ht, hl2⟩ := leaf_ok 0 names hn
  have hnb : ∀ t ∈ H, nb (tri t) = true ∧ VL.dep (tri t) ≤ 63 := fun t ht => by
    have e1 := Tm.nb_d t fun x hx => hn x (h.vars t ht x hx)
    have e2 := Tm.dep_d t
    have e3 := h.dep t ht
    simp [tri, nb, nbL, e1, VL.dep, depL, e2]; omega
  have eq := eqU_lst_nil (f := tri) true true H hnb
  have ow := ownL_map (f := tri) tri_own H
  have fz : frzL (cs.map D.int) = cs.map D.int := by simp
  have tl : tri t = .tup [t.d, .int 1, .int 1] := by
    obtain ⟨d, p, _⟩ := hl2.dep
    simp [tri, d, p]
  unfold Lh.m__law_heap
  rw [fnD_eq]
  simp at w
  by_cases c : H = []
  · subst c
    refine ⟨[t], ⟨by simp [hl2.dep.1], fun u hu => by rw [List.mem_singleton.mp hu]; exact hl2.dep.2.2, by simp [hl2.dep.2.1]⟩, ?_⟩
    have eq' : eqU (.nd .lst true []) (.nd .lst true []) = some true := eq
    simp [fz, w, eq', ht, tl]
  · refine ⟨H, ⟨h.dep, h.vars, Nat.le_trans h.parts (by omega)⟩, ?_⟩
    simp [fz, w, eq, c, ow]
end VL
/-! # VS18: the laws' own walks over terms -/
namespace VL
open PySem PySem.Spec PyProof.Rows L2
/-- all of a term's names are told -/
def Ws.has (ws : Ws) (xs : List Str) : Prop := ∀ x ∈ xs, ∃ v, ws.get x = some v
theorem Tm.worth_some {w : Nat} {ws : Ws} : ∀ (t : Tm), ws.has t.vars → ∃ v, t.worth w ws = some v
  | .num n, _ => ⟨_, rfl⟩
  | .var x, h => h x (by simp [Tm.vars])
  | .two f a b, h => by
    obtain ⟨x, ex⟩ := Tm.worth_some (w := w) a fun x hx => h x (List.mem_append_left _ hx)
    obtain ⟨y, ey⟩ := Tm.worth_some (w := w) b fun x hx => h x (List.mem_append_right _ hx)
    exact ⟨f.ap x y % 2 ^ w, by simp [Tm.worth, ex, ey]⟩
  | .pick c a b, h => by
    obtain ⟨z, ez⟩ := Tm.worth_some (w := w) c fun x hx => h x (List.mem_append_left _ (List.mem_append_left _ hx))
    obtain ⟨x, ex⟩ := Tm.worth_some (w := w) a fun x hx => h x (List.mem_append_left _ (List.mem_append_right _ hx))
    obtain ⟨y, ey⟩ := Tm.worth_some (w := w) b fun x hx => h x (List.mem_append_right _ hx)
    by_cases q : z = 0
    · exact ⟨y, by simp [Tm.worth, ez, ey, q]⟩
    · exact ⟨x, by simp [Tm.worth, ez, ex, q]⟩
/-- worths are told by the names read alone -/
theorem Tm.worth_congr {w : Nat} {ws ws' : Ws} : ∀ (t : Tm), (∀ x ∈ t.vars, ws.get x = ws'.get x) → t.worth w ws = t.worth w ws'
  | .num n, _ => rfl
  | .var x, h => h x (by simp [Tm.vars])
  | .two f a b, h => by
    have ea := Tm.worth_congr (w := w) a fun x hx => h x (List.mem_append_left _ hx)
    have eb := Tm.worth_congr (w := w) b fun x hx => h x (List.mem_append_right _ hx)
    simp [Tm.worth, ea, eb]
  | .pick c a b, h => by
    have ec := Tm.worth_congr (w := w) c fun x hx => h x (List.mem_append_left _ (List.mem_append_left _ hx))
    have ea := Tm.worth_congr (w := w) a fun x hx => h x (List.mem_append_left _ (List.mem_append_right _ hx))
    have eb := Tm.worth_congr (w := w) b fun x hx => h x (List.mem_append_right _ hx)
    simp [Tm.worth, ec, ea, eb]
theorem names_in_ok : ∀ (n : Nat) (t : Tm), t.dep ≤ n → t.parts ≤ 1000 → Lh.m__law_names_in n [t.d] = .ok (.lst true (t.vars.map D.str))
  | 0, t, hd, _ => by cases t <;> simp [Tm.dep] at hd
  | n + 1, .num k, hd, hp => by
    have sl := gSl_tail false (.str "num") [.int k] rfl
    unfold Lh.m__law_names_in
    rw [fnD_eq]
    simp [Tm.d, Tm.vars, sl, show gIsi "tuple" (.int k) = some (.bl false) from rfl]
  | n + 1, .var k, hd, hp => by
    unfold Lh.m__law_names_in
    rw [fnD_eq]
    simp [Tm.form, Tm.vars]
    simp [Tm.d]
  | n + 1, .two f a b, hd, hp => by
    have hd' : a.dep ≤ n ∧ b.dep ≤ n := by unfold Tm.dep at hd; omega
    have hp' : a.parts + b.parts ≤ 1000 := by unfold Tm.parts at hp; omega
    have ia := names_in_ok n a hd'.1 (by omega)
    have ib := names_in_ok n b hd'.2 (by omega)
    have la := Tm.vars_le a
    have lb := Tm.vars_le b
    have n2 := (nmne f).2.1
    have sl := fun z : Str => gSl_tail false (.str z) [a.d, b.d] (by simp)
    have ad1 := gAdd_lst (m := true) (m' := true) (xs := []) (ys := a.vars.map D.str) rfl (by simp) (by simp; omega)
    have ad2 := gAdd_lst (m := true) (m' := true) (xs := a.vars.map D.str) (ys := b.vars.map D.str) (by simp) (by simp) (by simp; omega)
    have t1 : ∀ t : Tm, gIsi "tuple" t.d = some (.bl true) := fun t => by cases t <;> rfl
    unfold Lh.m__law_names_in
    rw [fnD_eq]
    simp [Tm.d, n2, sl, t1, ia, ib, ad1, ad2, Tm.vars]
  | n + 1, .pick c a b, hd, hp => by
    have hd' : c.dep ≤ n ∧ a.dep ≤ n ∧ b.dep ≤ n := by unfold Tm.dep at hd; omega
    have hp' : c.parts + a.parts + b.parts ≤ 1000 := by unfold Tm.parts at hp; omega
    have ic := names_in_ok n c hd'.1 (by omega)
    have ia := names_in_ok n a hd'.2.1 (by omega)
    have ib := names_in_ok n b hd'.2.2 (by omega)
    have lc := Tm.vars_le c
    have la := Tm.vars_le a
    have lb := Tm.vars_le b
    have sl := gSl_tail false (.str "pick") [c.d, a.d, b.d] (by simp)
    have ad0 := gAdd_lst (m := true) (m' := true) (xs := []) (ys := c.vars.map D.str) rfl (by simp) (by simp; omega)
    have ad1 := gAdd_lst (m := true) (m' := true) (xs := c.vars.map D.str) (ys := a.vars.map D.str) (by simp) (by simp) (by simp; omega)
    have ad2 := gAdd_lst (m := true) (m' := true) (xs := (c.vars ++ a.vars).map D.str) (ys := b.vars.map D.str) (by simp) (by simp) (by simp; omega)
    have t1 : ∀ t : Tm, gIsi "tuple" t.d = some (.bl true) := fun t => by cases t <;> rfl
    have e0 : c.vars.map D.str ++ a.vars.map D.str = (c.vars ++ a.vars).map D.str := by simp
    unfold Lh.m__law_names_in
    rw [fnD_eq]
    simp only [List.map_append] at ad1 ad2
    simp [Tm.d, pkne, sl, t1, ia, ib, ic, ad0, ad1, ad2, Tm.vars]
theorem value_ok {w : Nat} {ws : Ws} (h0 : 1 ≤ w) (hw : w ≤ 64) (ok : ws.ok w) : ∀ (n : Nat) (t : Tm) (v : Int), t.dep ≤ n → ws.has t.vars → t.worth w ws = some v → Lh.m__law_value n [t.d, .int (2 ^ w), Ws.d false ws] = .ok (.int v)
  | 0, t, v, hd, _, _ => by cases t <;> simp [Tm.dep] at hd
  | n + 1, .num k, v, hd, _, e => by
    have e2 : gMod (.int k) (.int (2 ^ w)) = some (.int (k % 2 ^ w)) := gMod_i (Int.pow_pos (by decide))
    unfold Lh.m__law_value
    rw [fnD_eq]
    cases e
    simp [Tm.d, e2]
  | n + 1, .var x, v, hd, _, e => by
    unfold Lh.m__law_value
    rw [fnD_eq]
    have g : As.get ws.a x = some (.int v) := by rw [Ws.a_get, show ws.get x = some v from e]; rfl
    simp [Tm.d, vrne, g]
  | n + 1, .two f a b, v, hd, hh, e => by
    unfold Tm.worth at e
    obtain ⟨x, ex, e⟩ := Option.bind_eq_some_iff.mp e
    obtain ⟨y, ey, e⟩ := Option.bind_eq_some_iff.mp e
    cases e
    have hd' : a.dep ≤ n ∧ b.dep ≤ n := by unfold Tm.dep at hd; omega
    have ia := value_ok h0 hw ok n a x hd'.1 (fun x hx => hh x (List.mem_append_left _ hx)) ex
    have ib := value_ok h0 hw ok n b y hd'.2 (fun x hx => hh x (List.mem_append_right _ hx)) ey
    have bx := Tm.worth_in ok ex
    have byy := Tm.worth_in ok ey
    have pw := pow_le w hw
    have pl : (2 : Int) ≤ 2 ^ w := by
      have := Nat.pow_le_pow_right (n := 2) (by decide) h0
      have e : ((2 ^ 1 : Nat) : Int) ≤ ((2 ^ w : Nat) : Int) := Int.ofNat_le.mpr this
      rw [Int.natCast_pow, Int.natCast_pow] at e
      exact e
    have pp : (0 : Int) < 2 ^ w := by omega
    have sl := fun z : Str => gSl_tail false (.str z) [a.d, b.d] (by simp)
    have mu : gMulU (.int x) (.int y) = some (.int (x * y)) := gMul_b (by omega) (by omega) (by omega) (by omega)
    have c : ∀ z : Int, gMod (.int z) (.int (2 ^ w)) = some (.int (z % 2 ^ w)) := fun z => gMod_i pp
    have m1 : (x + 2 ^ w - y) % 2 ^ w = (x - y) % 2 ^ w := by
      rw [show x + 2 ^ w - y = x - y + 2 ^ w by omega, Int.add_emod_right]
    have l1 : ∀ p : Prop, [Decidable p] → (if p then (1 : Int) else 0) % 2 ^ w = if p then 1 else 0 := fun p _ => by
      split
      · exact Int.emod_eq_of_lt (by decide) (by omega)
      · exact Int.emod_eq_of_lt (by decide) (by omega)
    unfold Lh.m__law_value
    rw [fnD_eq]
    obtain ⟨n1, n2, n3⟩ := nmne f
    simp only [Tm.d]
    generalize (2 : Int) ^ w = top at *
    cases f <;> simp [n1, n2, n3, ia, ib, c, mu, sl, Op2.nm, Op2.ap, m1, l1]
  | n + 1, .pick c a b, v, hd, hh, e => by
    have hc : ws.has c.vars := fun x hx => hh x (List.mem_append_left _ (List.mem_append_left _ hx))
    have ha : ws.has a.vars := fun x hx => hh x (List.mem_append_left _ (List.mem_append_right _ hx))
    have hb : ws.has b.vars := fun x hx => hh x (List.mem_append_right _ hx)
    obtain ⟨z, ez⟩ := Tm.worth_some (w := w) c hc
    obtain ⟨x, ex⟩ := Tm.worth_some (w := w) a ha
    obtain ⟨y, ey⟩ := Tm.worth_some (w := w) b hb
    have hd' : c.dep ≤ n ∧ a.dep ≤ n ∧ b.dep ≤ n := by unfold Tm.dep at hd; omega
    have ic := value_ok h0 hw ok n c z hd'.1 hc ez
    have ia := value_ok h0 hw ok n a x hd'.2.1 ha ex
    have ib := value_ok h0 hw ok n b y hd'.2.2 hb ey
    have sl := gSl_tail false (.str "pick") [c.d, a.d, b.d] (by simp)
    unfold Lh.m__law_value
    rw [fnD_eq]
    simp only [Tm.d]
    by_cases q : z = 0
    · subst q
      have : v = y := by
        simp [Tm.worth, ez, ey] at e; exact e.symm
      subst this
      simp [pkne, ia, ib, ic, sl]
    · have : v = x := by
        simp [Tm.worth, ez, ex, q] at e; exact e.symm
      subst this
      simp [pkne, ia, ib, ic, sl, q]
theorem mem_srtX {x : Str} {xs : List Str} : x ∈ srtX xs ↔ x ∈ xs := by
  unfold srtX
  rw [List.mem_mergeSort, mem_onceS]
theorem srtX_length (xs : List Str) : (srtX xs).length ≤ xs.length := by
  unfold srtX
  rw [List.length_mergeSort]
  exact onceS_length xs
theorem gSortSet_strs (m : Bool) (xs : List Str) (h : xs.length ≤ 4000) : gSortSet (.nd .lst m (xs.map D.str)) = some (.lst true ((srtX xs).map D.str)) := by
  unfold gSortSet
  simp only [strsD_map, Option.bind_some]
  rw [if_pos h]
/-- a loop that keeps J; J may tell what is left -/
theorem forL_all {α : Type} (f : α → D) {g : Fg} {body : Fs} (J : List α → Slots → Prop) : ∀ (xs : List α), (∀ x r s, (∃ p, xs = p ++ x :: r) → J (x :: r) s → ∃ s1 s2, g (f x) s = some s1 ∧ (body s1 = .nx s2 ∨ body s1 = .ct s2) ∧ J r s2) → ∀ s, J xs s → ∃ s', forL g body (xs.map f) s = .nx s' ∧ J [] s'
  | [], _, s, h => ⟨s, rfl, h⟩
  | x :: xs, H, s, h => by
    obtain ⟨s1, s2, e1, e2, j⟩ := H x xs s ⟨[], rfl⟩ h
    obtain ⟨s', e3, j'⟩ := forL_all f J xs (fun y r t ⟨p, hp⟩ hj => H y r t ⟨x :: p, by rw [hp]; rfl⟩ hj) s2 j
    refine ⟨s', ?_, j'⟩
    rw [List.map_cons, forL_cons, e1]
    rcases e2 with e2 | e2 <;> simp [e2, e3]
theorem cutA_len {α : Type} (xs : List α) (a b : Nat) : (cutA xs (some (a : Int)) (some (b : Int))).length ≤ b - a := by
  rw [cutA_nat, List.length_take]; omega
theorem cutA_sub {α : Type} (xs : List α) (a b : Nat) : ∀ x ∈ cutA xs (some (a : Int)) (some (b : Int)), x ∈ xs := fun x hx => by
  rw [cutA_nat] at hx
  exact List.mem_of_mem_drop (List.mem_of_mem_take hx)
theorem cutA_len_le {α : Type} (xs : List α) (a b : Nat) : (cutA xs (some (a : Int)) (some (b : Int))).length ≤ xs.length := by
  rw [cutA_nat, List.length_take, List.length_drop]; omega
end VL
/-! # VS19: the words that the laws of terms draw -/
namespace VL
open PySem PySem.Spec PyProof.Rows L2
theorem Ws.ok_put {w : Nat} {ws : Ws} (h : ws.ok w) {x : Str} {v : Int} (hv : 0 ≤ v ∧ v < 2 ^ w) : (ws.put x v).ok w := by
  induction ws with
  | nil => intro p hp; rw [List.mem_singleton.mp hp]; exact hv
  | cons q ws ih =>
    unfold Ws.put
    split
    · intro p hp
      rcases List.mem_cons.mp hp with rfl | hp
      · exact hv
      · exact h p (List.mem_cons_of_mem _ hp)
    · intro p hp
      rcases List.mem_cons.mp hp with rfl | hp
      · exact h p (by simp)
      · exact ih (fun r hr => h r (List.mem_cons_of_mem _ hr)) p hp
/-- each name once -/
def Ws.uniq (ws : Ws) : Prop := (ws.map (·.1)).Nodup
theorem Ws.put_keys (ws : Ws) (x : Str) (v : Int) : (ws.put x v).map (·.1) = if x ∈ ws.map (·.1) then ws.map (·.1) else ws.map (·.1) ++ [x] := by
  induction ws with
  | nil => rfl
  | cons p ws ih =>
    unfold Ws.put
    by_cases h : p.1 = x
    · simp [h]
    · have h' : ¬ x = p.1 := fun q => h q.symm
      rw [if_neg h, List.map_cons, ih]
      by_cases q : x ∈ ws.map (·.1)
      · have q' : x ∈ List.map (·.1) (p :: ws) := List.mem_cons_of_mem _ q
        rw [if_pos q, if_pos q']; rfl
      · have q' : ¬ x ∈ List.map (·.1) (p :: ws) := by
          rw [List.map_cons, List.mem_cons]; rintro (e | e); exact h' e; exact q e
        rw [if_neg q, if_neg q']; rfl
theorem Ws.uniq_put {ws : Ws} (h : ws.uniq) (x : Str) (v : Int) : (ws.put x v).uniq := by
  unfold Ws.uniq
  rw [Ws.put_keys]
  split
  · exact h
  · rename_i q
    rw [List.nodup_append]
    exact ⟨h, by simp, fun a ha b hb e => q (by rw [List.mem_singleton.mp hb] at e; exact e ▸ ha)⟩
def wordsTurn : Fs := (sSeq (sPut (pName 5) (bVar 7) (oF (fShr (bBin gIx (bLst (bCons (bBin gMod (bVar 6) (bVar 3)) (bCons (bBin gSub (bVar 3) (bC (.int 1))) (bCons (bBin gMod (bVar 6) (bC (.int 2))) (bCons (bBin gMod (bVar 6) (bVar 3)) bNil))))) (bBin gMod (bVar 6) (bC (.int 4)))))))
  (sSet 6 (oF (bBin gAddU (bBin gDiv (bVar 6) (bC (.int 5))) (bC (.int 7))))))
theorem at4 {a b c d : D} {r : Nat} (h : r < 4) : L2.atI [a, b, c, d] (r : Int) = some ([a, b, c, d][r]'(by simpa using h)) := by
  rw [VL.atI_nat _ _ (by simpa using h)]
theorem pow2_pos (w : Nat) : (0 : Int) < 2 ^ w := Int.pow_pos (by decide)
theorem pow2_one {w : Nat} (h : 1 ≤ w) : (2 : Int) ≤ 2 ^ w := by
  have := Nat.pow_le_pow_right (n := 2) (by decide) h
  have e : ((2 ^ 1 : Nat) : Int) ≤ ((2 ^ w : Nat) : Int) := Int.ofNat_le.mpr this
  rw [Int.natCast_pow, Int.natCast_pow] at e
  exact e
theorem words_turn (w : Nat) (h1 : 1 ≤ w) (h2 : w ≤ 64) (ws : Ws) (ok : ws.ok w) (hl : ws.length ≤ 900) (c : Int) (x : Str) (a b d e : Option D) (t : List (Option D)) :
    ∃ v c', (0 ≤ v ∧ v < 2 ^ w) ∧ wordsTurn ([a, b, d, some (.int (2 ^ w)), e, some (Ws.d true ws), some (.int c), some (.str x)] ++ t) =
      .nx ([a, b, d, some (.int (2 ^ w)), e, some (Ws.d true (ws.put x v)), some (.int c'), some (.str x)] ++ t) := by
  have p0 := pow2_pos w
  have p1 := pow2_one h1
  obtain ⟨r, mr, _, lr⟩ := gMod_lit (n := c) 4 (by decide)
  have mr' : gMod (.int c) (.int 4) = some (.int r) := mr
  have mt : gMod (.int c) (.int (2 ^ w)) = some (.int (c % 2 ^ w)) := gMod_i p0
  have m2 : gMod (.int c) (.int 2) = some (.int (c % 2)) := gMod_i (by decide)
  have d5 : gDiv (.int c) (.int 5) = some (.int (c / 5)) := gDiv_i (by decide) (by decide)
  have b1 := Int.emod_nonneg c (Int.ne_of_gt p0)
  have b2 := Int.emod_lt_of_pos c p0
  have b3 := Int.emod_nonneg c (show (2 : Int) ≠ 0 by decide)
  have b4 := Int.emod_lt_of_pos c (show (0 : Int) < 2 by decide)
  obtain ⟨v, hv1, hv2⟩ : ∃ v : Int, (0 ≤ v ∧ v < 2 ^ w) ∧ L2.atI [D.int (c % 2 ^ w), .int (2 ^ w - 1), .int (c % 2), .int (c % 2 ^ w)] (r : Int) = some (.int v) := by
    rw [at4 lr]
    rcases (show r = 0 ∨ r = 1 ∨ r = 2 ∨ r = 3 by omega) with q | q | q | q <;> subst q
    · exact ⟨_, ⟨b1, b2⟩, rfl⟩
    · exact ⟨2 ^ w - 1, ⟨by omega, by omega⟩, rfl⟩
    · exact ⟨c % 2, ⟨b3, by omega⟩, rfl⟩
    · exact ⟨_, ⟨b1, b2⟩, rfl⟩
  refine ⟨v, c / 5 + 7, hv1, ?_⟩
  generalize c % 2 ^ w = m at *
  generalize (2 : Int) ^ w = top at *
  have sI := fun s i π => As.setItems (s := s) (i := i) (π := π) (x := x) (v := .int v) (l := ws.a) (by simp [Ws.a]; omega)
  unfold wordsTurn
  simp [mr', mt, m2, d5, hv2, sI, Ws.a_put]
theorem words_loop (w : Nat) (h1 : 1 ≤ w) (h2 : w ≤ 64) (a b d e : Option D) (t : List (Option D)) : ∀ (names : List Str) (ws : Ws) (ok : ws.ok w) (hl : ws.length + names.length ≤ 900) (c : Int) (f : Option D),
    ∃ ws' c' f', ws'.ok w ∧ (ws.uniq → ws'.uniq) ∧ ws'.length ≤ ws.length + names.length ∧ ws'.has names ∧ (∀ x v, ws.get x = some v → ∃ v', ws'.get x = some v') ∧ forL (gtName 7) wordsTurn (names.map D.str) ([a, b, d, some (.int (2 ^ w)), e, some (Ws.d true ws), some (.int c), f] ++ t) =
      .nx ([a, b, d, some (.int (2 ^ w)), e, some (Ws.d true ws'), some (.int c'), f'] ++ t)
  | [], ws, ok, hl, c, f => ⟨ws, c, f, ok, id, by simp, fun x hx => absurd hx (by simp), fun x v h => ⟨v, h⟩, id rfl⟩
  | x :: names, ws, ok, hl, c, f => by
    obtain ⟨v, c1, hv, e1⟩ := words_turn w h1 h2 ws ok (by simp at hl; omega) c x a b d e t
    have pl := Ws.put_length ws x v
    simp at hl
    obtain ⟨ws', c', f', k1, ku, k2, k3, k4, k5⟩ := words_loop w h1 h2 a b d e t names (ws.put x v) (Ws.ok_put ok hv) (by omega) c1 (some (.str x))
    refine ⟨ws', c', f', k1, fun q => ku (Ws.uniq_put q _ _), by simp; omega, fun y hy => ?_, fun y u hy => ?_, ?_⟩
    · rcases List.mem_cons.mp hy with rfl | hy
      · exact k4 y v (by rw [Ws.get_put, if_pos rfl])
      · exact k3 y hy
    · by_cases q : x = y
      · exact k4 y v (by rw [Ws.get_put, if_pos q])
      · exact k4 y u (by rw [Ws.get_put, if_neg q]; exact hy)
    · rw [List.map_cons, forL_cons]
      have e1' : wordsTurn ([a, b, d, some (.int (2 ^ w)), e, some (Ws.d true ws), some (.int c), f].set 7 (some (.str x)) ++ t) = _ := e1
      simp at e1' k5 ⊢
      simp [gtName, e1', k5]
end VL
/-! # VS20: equal things are told equal -/
namespace VL
open PySem PySem.Spec PyProof.Rows L2
mutual
def kOk : D → Bool
  | .nd .tup _ ds => kOkL ds
  | .nd .lst _ ds => kOkL ds
  | .nd (.dct ks) _ ds => decide ks.Nodup && (ks.length == ds.length) && kOkL ds
  | .nd (.ins _ _) _ _ => false
  | _ => true
def kOkL : List D → Bool
  | [] => true
  | d :: ds => kOk d && kOkL ds
end
theorem kOkL_iff {ds : List D} : kOkL ds = true ↔ ∀ d ∈ ds, kOk d = true := by
  induction ds with
  | nil => simp [kOkL]
  | cons d ds ih => rw [kOkL]; simp [ih]
theorem lookK_at : ∀ (ks : List Key) (ds : List D) (i : Nat) (h : i < ks.length) (h' : i < ds.length), ks.Nodup → lookK ks[i] ks ds = some ds[i]
  | [], _, _, h, _, _ => absurd h (by simp)
  | _ :: _, [], _, _, h', _ => absurd h' (by simp)
  | k :: ks, d :: ds, 0, _, _, _ => by simp [lookK]
  | k :: ks, d :: ds, i + 1, h, h', nd => by
    have n2 := List.nodup_cons.mp nd
    have hne : k ≠ ks[i]'(by simpa using h) := fun e => n2.1 (e ▸ List.getElem_mem _)
    have ih := lookK_at ks ds i (by simpa using h) (by simpa using h') n2.2
    simp [lookK, hne, ih]
theorem frzL_get {ds es : List D} (h : frzL ds = frzL es) : ds.length = es.length ∧ ∀ i (h1 : i < ds.length) (h2 : i < es.length), VL.frz ds[i] = VL.frz es[i] := by
  rw [frzL_map, frzL_map] at h
  have hl : ds.length = es.length := by simpa using congrArg List.length h
  refine ⟨hl, fun i h1 h2 => ?_⟩
  have := congrArg (·[i]?) h
  simp [h1, h2] at this
  exact this
theorem eqTL_of (n : Nat) : ∀ (as bs : List D), as.length = bs.length → (∀ i (h1 : i < as.length) (h2 : i < bs.length), eqT n as[i] bs[i] = true) → eqTL n as bs = true
  | [], [], _, _ => by rw [eqTL]
  | a :: as, b :: bs, hl, h => by
    rw [eqTL, show eqT n a b = true from h 0 (by simp) (by simp), eqTL_of n as bs (by simpa using hl) fun i h1 h2 => h (i + 1) (by simpa using h1) (by simpa using h2)]
    rfl
  | [], _ :: _, hl, _ => by simp at hl
  | _ :: _, [], hl, _ => by simp at hl
theorem eqTD_of (n : Nat) (ls : List Key) (bs : List D) : ∀ (ks : List Key) (as : List D), ks.length = as.length → (∀ i (h1 : i < ks.length) (h2 : i < as.length), ∃ b, lookK ks[i] ls bs = some b ∧ eqT n as[i] b = true) → eqTD n ks as ls bs = true
  | [], [], _, _ => by rw [eqTD]
  | k :: ks, a :: as, hl, h => by
    obtain ⟨b, e1, e2⟩ := h 0 (by simp) (by simp)
    rw [eqTD, eqTD_of n ls bs ks as (by simpa using hl) fun i h1 h2 => h (i + 1) (by simpa using h1) (by simpa using h2)]
    simp at e1 e2
    rw [e1]
    simp [e2]
  | [], _ :: _, hl, _ => by simp at hl
  | _ :: _, [], hl, _ => by simp at hl
theorem depL_get {ds : List D} {n : Nat} (h : depL ds ≤ n) : ∀ d ∈ ds, VL.dep d ≤ n := by
  induction ds with
  | nil => intro d hd; cases hd
  | cons e ds ih =>
    rw [depL] at h
    intro d hd
    rcases List.mem_cons.mp hd with rfl | hd
    · omega
    · exact ih (by omega) d hd
theorem eqT_same : ∀ (n : Nat) (d d' : D), kOk d = true → VL.dep d < n → VL.frz d = VL.frz d' → eqT n d d' = true
  | 0, d, d', _, h, _ => absurd h (by omega)
  | n + 1, d, d', hk, hd, e => by
    have inner : ∀ (ds es : List D), kOkL ds = true → depL ds < n → frzL ds = frzL es → ds.length = es.length ∧ ∀ i (h1 : i < ds.length) (h2 : i < es.length), eqT n ds[i] es[i] = true := fun ds es k1 k2 k3 => by
      obtain ⟨l, g⟩ := frzL_get k3
      refine ⟨l, fun i h1 h2 => eqT_same n _ _ (kOkL_iff.mp k1 _ (List.getElem_mem _)) ?_ (g i h1 h2)⟩
      have := depL_get (Nat.le_refl _) ds[i] (List.getElem_mem (l := ds) h1)
      omega
    cases d with
    | nd k m ds =>
      cases d' with
      | nd k' m' es =>
        rw [frz_nd, frz_nd] at e
        injection e with e1 _ e2
        subst e1
        rw [VL.dep] at hd
        cases k with
        | tup =>
          obtain ⟨l, g⟩ := inner ds es (by simpa [kOk] using hk) (by omega) e2
          rw [eqT]
          exact eqTL_of n ds es l g
        | lst =>
          obtain ⟨l, g⟩ := inner ds es (by simpa [kOk] using hk) (by omega) e2
          rw [eqT]
          exact eqTL_of n ds es l g
        | dct ks =>
          simp [kOk] at hk
          obtain ⟨l, g⟩ := inner ds es hk.2 (by omega) e2
          rw [eqT]
          simp
          exact eqTD_of n ks es ks ds hk.1.2 fun i h1 h2 => ⟨es[i], lookK_at ks es i h1 (by omega) hk.1.1, g i h2 (by omega)⟩
        | ins c fs => simp [kOk] at hk
      | _ => simp at e
    | non => cases d' <;> simp at e <;> simp [eqT]
    | bl b => cases d' <;> simp at e <;> simp [eqT, e]
    | int b => cases d' <;> simp at e <;> simp [eqT, e]
    | str b => cases d' <;> simp at e <;> simp [eqT, e]
mutual
theorem toPy_frz : ∀ d : D, toPy (VL.frz d) = toPy d
  | .non => rfl
  | .bl _ => rfl
  | .int _ => rfl
  | .str _ => rfl
  | .nd .tup m ds => by rw [frz_nd, toPy, toPy, toPyL_frz ds]
  | .nd .lst m ds => by rw [frz_nd, toPy, toPy, toPyL_frz ds]
  | .nd (.dct _) m ds => by rw [frz_nd]; simp [toPy]
  | .nd (.ins _ _) m ds => by rw [frz_nd]; simp [toPy]
theorem toPyL_frz : ∀ ds : List D, toPyL (frzL ds) = toPyL ds
  | [] => rfl
  | d :: ds => by rw [frzL, toPyL, toPyL, toPy_frz d, toPyL_frz ds]
end
/-- equal things -/
theorem eqU_same {k : Kd} {m : Bool} {ds : List D} {d' : D} (hk : kOk (.nd k m ds) = true) (hd : VL.dep (.nd k m ds) ≤ 39) (e : VL.frz (.nd k m ds) = VL.frz d') : eqU (.nd k m ds) d' = some true := by
  have ep : toPy (.nd k m ds) = toPy d' := by rw [← toPy_frz, e, toPy_frz]
  have es : sureEq (.nd k m ds) d' = true := by
    have i : isNd d' = true := by
      cases d' with
      | nd _ _ _ => rfl
      | _ => simp at e
    unfold sureEq
    rw [i, eqT_same 40 _ _ hk (by omega) e]; rfl
  rw [eqU_nd]
  unfold sureO
  rw [es]
  unfold eqD
  rw [← ep]
  cases h : toPy (.nd k m ds) with
  | none => rfl
  | some p =>
    simp only []
    by_cases q : (SeqAt.shaped p && SeqAt.shaped p) = true
    · rw [if_pos q]
      have : p.canLay0 = true := by
        simp [SeqAt.shaped] at q; exact q.1
      rw [SeqAt.eqv_refl p this]; rfl
    · rw [if_neg q]; rfl
theorem kOk_ws {ws : Ws} (h : ws.uniq) (m : Bool) : kOk (Ws.d m ws) = true := by
  unfold Ws.d As.d
  rw [kOk]
  have e1 : (As.ks ws.a).Nodup := by
    unfold As.ks Ws.a
    rw [List.map_map]
    have : (ws.map ((fun p => (Sum.inr p.1 : Key)) ∘ fun p => (p.1, D.int p.2))) = (ws.map (·.1)).map Sum.inr := by
      rw [List.map_map]; rfl
    rw [this]
    exact List.pairwise_map.mpr (List.Pairwise.imp (fun {a b} (q : a ≠ b) e => q (Sum.inr.inj e)) h)
  have e2 : kOkL (As.vs ws.a) = true := kOkL_iff.mpr fun d hd => by
    unfold As.vs Ws.a at hd
    rw [List.map_map] at hd
    obtain ⟨p, _, rfl⟩ := List.mem_map.mp hd
    rfl
  rw [e2]
  rw [decide_eq_true e1]
  simp [As.ks, As.vs]
theorem dep_ws (ws : Ws) (m : Bool) : VL.dep (Ws.d m ws) ≤ 1 := by
  unfold Ws.d As.d
  rw [VL.dep]
  have := depL_of (ds := As.vs ws.a) (n := 0) fun d hd => by
    unfold As.vs Ws.a at hd
    rw [List.map_map] at hd
    obtain ⟨p, _, rfl⟩ := List.mem_map.mp hd
    exact Nat.le_refl 0
  omega
theorem eqU_ws {ws : Ws} (h : ws.uniq) (m m' : Bool) : eqU (Ws.d m ws) (Ws.d m' ws) = some true :=
  eqU_same (kOk_ws h m) (by have := dep_ws ws m; exact Nat.le_trans this (by decide)) ((Ws.frz m ws).trans (Ws.frz m' ws).symm)
end VL
/-! # VS21: steps -/
namespace VL
open PySem PySem.Spec PyProof.Rows L2
def Ros.inT (x : Ros) (k : D → Slots → Ros) : Ros := match x with
  | .ok ds s => if ds.length ≤ sizeLine then k (.tup ds) s else .stuck
  | .err c s => .err c s
  | .stuck => .stuck
@[simp] theorem Ros.inT_ok (ds : List D) (s : Slots) (k : D → Slots → Ros) : (Ros.ok ds s).inT k = if ds.length ≤ sizeLine then k (.tup ds) s else .stuck := id rfl
@[simp] theorem osCons_oTup (h g : Fos) (s : Slots) : osCons (oTup h) g s = (h s).inT fun d s => (g s).add d := by
  unfold osCons oTup Ros.inT
  cases h s with
  | ok ds s1 =>
    by_cases q : ds.length ≤ sizeLine
    · simp only [q, if_true]; cases g s1 <;> rfl
    · simp only [q, if_false]
  | err c s => rfl
  | stuck => rfl
inductive Stp where
  | take (f v : Str) | give (f : Str) (t : VL.Tm) | put (v : Str) (t : VL.Tm) | jump (t : VL.Tm) (n : Int)
def Stp.d : Stp → D
  | .take f v => .tup [.str "take", .str f, .str v]
  | .give f t => .tup [.str "give", .str f, t.d]
  | .put v t => .tup [.str "put", .str v, t.d]
  | .jump t n => .tup [.str "jump", t.d, .int n]
@[simp] theorem Stp.shr_d (s : Stp) : VL.shr s.d = true := by cases s <;> simp [Stp.d]
@[simp] theorem Stp.own_d (s : Stp) : VL.own s.d = true := by cases s <;> simp [Stp.d]
@[simp] theorem Stp.frz_d (s : Stp) : VL.frz s.d = s.d := by cases s <;> simp [Stp.d]
@[simp] theorem frzL_stp (S : List Stp) : frzL (S.map Stp.d) = S.map Stp.d := by
  rw [frzL_map, List.map_map]
  exact List.map_congr_left fun t _ => Stp.frz_d t
@[simp] theorem ownL_stp (S : List Stp) : ownL (S.map Stp.d) = true := ownL_map Stp.own_d S
@[simp] theorem shrL_stp (S : List Stp) : shrL (S.map Stp.d) = true := shrL_map Stp.shr_d S
theorem Tm.kOk_d : ∀ t : Tm, kOk t.d = true
  | .num n => rfl
  | .var x => rfl
  | .two o a b => by simp [Tm.d, kOk, kOkL, Tm.kOk_d a, Tm.kOk_d b]
  | .pick c a b => by simp [Tm.d, kOk, kOkL, Tm.kOk_d a, Tm.kOk_d b, Tm.kOk_d c]
theorem Stp.kOk_d (s : Stp) : kOk s.d = true := by
  cases s <;> simp [Stp.d, kOk, kOkL, Tm.kOk_d]
def Stp.terms : Stp → List Tm
  | .take _ _ => []
  | .give _ t => [t]
  | .put _ t => [t]
  | .jump t _ => [t]
/-- a small term over names -/
structure TmOk (names : List Str) (t : Tm) : Prop where
  dep : t.dep ≤ 6
  parts : t.parts ≤ 32
  vars : ∀ x ∈ t.vars, x ∈ names
/-- a step over names and ferries -/
def Stp.ok (names fs : List Str) (L : Nat) : Stp → Prop
  | .take f v => f ∈ fs ∧ v ∈ names
  | .give f t => f ∈ fs ∧ TmOk names t
  | .put v t => v ∈ names ∧ TmOk names t
  | .jump t n => TmOk names t ∧ 0 ≤ n ∧ n ≤ L
theorem at2 {a b : D} {r : Nat} (h : r < 2) : L2.atI [a, b] (r : Int) = some ([a, b][r]'(by simpa using h)) := by
  rw [VL.atI_nat _ _ (by simpa using h)]
theorem pow10_30 : gPow (.int 10) (.int 30) = some (.int 1000000000000000000000000000000) := by
  rw [gPow_i (by decide) (by decide) (by decide)]; rfl
theorem pow10_9 : gPow (.int 10) (.int 9) = some (.int 1000000000) := by
  rw [gPow_i (by decide) (by decide) (by decide)]; rfl
theorem opsAt (r : Nat) (h : 2 ≤ r) (h' : r < 7) : ∃ o : Op2, L2.atI [D.str "plus", .str "minus", .str "times", .str "less", .str "same"] ((r : Int) - 2) = some (.str o.nm) := by
  rcases (show r = 2 ∨ r = 3 ∨ r = 4 ∨ r = 5 ∨ r = 6 by omega) with h | h | h | h | h <;> subst h
  · exact ⟨.plus, rfl⟩
  · exact ⟨.minus, rfl⟩
  · exact ⟨.times, rfl⟩
  · exact ⟨.less, rfl⟩
  · exact ⟨.same, rfl⟩
theorem small_ok (n : Int) (names : List Str) (hn : names ≠ []) : ∃ t, Lh.m__law_small [.int n, .nd .lst false (names.map D.str)] = .ok t.d ∧ TmOk names t := by
  have d8 : gDiv (.int n) (.int 8) = some (.int (n / 8)) := gDiv_i (by decide) (by decide)
  have d64 : gDiv (.int n) (.int 64) = some (.int (n / 64)) := gDiv_i (by decide) (by decide)
  have d32 : gDiv (.int n) (.int 32) = some (.int (n / 32)) := gDiv_i (by decide) (by decide)
  generalize n / 8 = q8 at *
  generalize n / 64 = q64 at *
  generalize n / 32 = q32 at *
  have hl : 0 < names.length := List.length_pos_iff.mpr hn
  obtain ⟨rn, mn, _, ln⟩ := gMod_in (n := q8) (m := (names.length : Int)) (by omega)
  have ai := atI_map D.str names rn (by omega)
  have gl := gLen_map D.str false names
  obtain ⟨r7, m7, _, l7⟩ := gMod_lit (n := q64) 7 (by decide)
  have m7' : gMod (.int q64) (.int 7) = some (.int r7) := m7
  obtain ⟨rb, mb, _, lb⟩ := gMod_in (n := q64) (m := 2000000000000000000000000000000) (by decide)
  have mu : gMulU (.int 2) (.int 1000000000000000000000000000000) = some (.int 2000000000000000000000000000000) := gMul_b (i := 2) (j := 1000000000000000000000000000000) (by decide) (by decide) (by decide) (by decide)
  obtain ⟨r2, m2, _, l2⟩ := gMod_lit (n := q32) 2 (by decide)
  have m2' : gMod (.int q32) (.int 2) = some (.int r2) := m2
  obtain ⟨k2, mk2, _, lk2⟩ := gMod_lit (n := n) 2 (by decide)
  have mk2' : gMod (.int n) (.int 2) = some (.int k2) := mk2
  obtain ⟨k8, mk8, _, lk8⟩ := gMod_lit (n := n) 8 (by decide)
  have mk8' : gMod (.int n) (.int 8) = some (.int k8) := mk8
  obtain ⟨z, hz⟩ : ∃ z : Int, L2.atI [D.int ((r7 : Int) - 3), .int ((rb : Int) - 1000000000000000000000000000000)] (r2 : Int) = some (.int z) := by
    rw [at2 l2]
    rcases (show r2 = 0 ∨ r2 = 1 by omega) with h | h <;> subst h
    · exact ⟨_, rfl⟩
    · exact ⟨_, rfl⟩
  obtain ⟨x, hx, hxn⟩ : ∃ x, names[rn]'(by omega) = x ∧ x ∈ names := ⟨_, rfl, List.getElem_mem _⟩
  rw [hx] at ai
  unfold Lh.m__law_small
  rw [fnD_eq]
  by_cases c1 : (k8 : Int) < 2
  · rcases (show k2 = 0 ∨ k2 = 1 by omega) with h | h <;> subst h
    · refine ⟨.var x, ?_, by simp [Tm.dep], by simp [Tm.parts], by simpa [Tm.vars] using hxn⟩
      simp [d8, d64, d32, gl, mn, ai, m7', mb, mu, m2', mk2', mk8', pow10_30, hz, c1, Tm.d]
    · refine ⟨.num z, ?_, by simp [Tm.dep], by simp [Tm.parts], by simp [Tm.vars]⟩
      simp [d8, d64, d32, gl, mn, ai, m7', mb, mu, m2', mk2', mk8', pow10_30, hz, c1, Tm.d]
  · by_cases c2 : (k8 : Int) < 7
    · obtain ⟨o, ho⟩ := opsAt k8 (by omega) (by omega)
      refine ⟨.two o (.var x) (.num z), ?_, by simp [Tm.dep], by simp [Tm.parts], by simpa [Tm.vars] using hxn⟩
      simp [d8, d64, d32, gl, mn, ai, m7', mb, mu, m2', mk2', mk8', pow10_30, hz, c1, c2, ho, Tm.d]
    · refine ⟨.pick (.var x) (.num z) (.two .plus (.var x) (.num 1)), ?_, by simp [Tm.dep], by simp [Tm.parts], by simpa [Tm.vars] using hxn⟩
      simp [d8, d64, d32, gl, mn, ai, m7', mb, mu, m2', mk2', mk8', pow10_30, hz, c1, c2, Tm.d, Op2.nm]
end VL
/-! # VS22: a law's steps; wish and after -/
namespace VL
open PySem PySem.Spec PyProof.Rows L2
theorem steps_turn (names fs : List Str) (hn : names ≠ []) (hf : fs.length = 3) (cells : List Int) (hc : cells.length ≤ 100) (S : List Stp) (hS : ∀ s ∈ S, s.ok names fs cells.length) (hl : S.length ≤ 100) (c : Int) (e5 e6 : Option D) :
    ∃ s g5 g6, Stp.ok names fs cells.length s ∧ Lh.b__law_steps_0 [some (.nd .lst false (cells.map D.int)), some (.nd .lst false (names.map D.str)), some (.nd .lst false (fs.map D.str)), some (.lst true (S.map Stp.d)), some (.int c), e5, e6] =
      .nx [some (.nd .lst false (cells.map D.int)), some (.nd .lst false (names.map D.str)), some (.nd .lst false (fs.map D.str)), some (.lst true ((S ++ [s]).map Stp.d)), some (.int c), g5, g6] := by
  have d16 : gDiv (.int c) (.int 16) = some (.int (c / 16)) := gDiv_i (by decide) (by decide)
  have d4 : gDiv (.int c) (.int 4) = some (.int (c / 4)) := gDiv_i (by decide) (by decide)
  generalize c / 16 = q16 at *
  generalize c / 4 = q4 at *
  have hln : 0 < names.length := List.length_pos_iff.mpr hn
  obtain ⟨n, mn, _, _⟩ := gMod_in (n := q16) (m := 1000000000000000000000000000000000000000000000000000000000000) (by decide)
  obtain ⟨rn, mrn, _, ln⟩ := gMod_in (n := q4) (m := (names.length : Int)) (by omega)
  have ai := atI_map D.str names rn (by omega)
  have gl := gLen_map D.str false names
  have gc := gLen_map D.int false cells
  obtain ⟨r3, m3, _, l3⟩ := gMod_lit (n := q4) 3 (by decide)
  have m3' : gMod (.int q4) (.int 3) = some (.int r3) := m3
  have af := atI_map D.str fs r3 (by omega)
  obtain ⟨r4, m4, _, l4⟩ := gMod_lit (n := c) 4 (by decide)
  have m4' : gMod (.int c) (.int 4) = some (.int r4) := m4
  obtain ⟨rj, mj, _, lj⟩ := gMod_in (n := q4) (m := (cells.length : Int) + 1) (by omega)
  obtain ⟨x, hx, hxn⟩ : ∃ x, names[rn]'(by omega) = x ∧ x ∈ names := ⟨_, rfl, List.getElem_mem _⟩
  rw [hx] at ai
  obtain ⟨f, hf, hfn⟩ : ∃ f, fs[r3]'(by omega) = f ∧ f ∈ fs := ⟨_, rfl, List.getElem_mem _⟩
  rw [hf] at af
  obtain ⟨t, ht, tok⟩ := small_ok n names hn
  have hz := sizeLine_ge
  have lz : S.length < sizeLine := by omega
  unfold Lh.b__law_steps_0
  rcases (show r4 = 0 ∨ r4 = 1 ∨ r4 = 2 ∨ r4 = 3 by omega) with q | q | q | q <;> subst q
  · refine ⟨.take f x, some (.int n), some (.str x), ⟨hfn, hxn⟩, ?_⟩
    simp [d16, d4, pow10_60, mn, mrn, ai, gl, gc, m3', af, m4', mj, ht, lz, Stp.d]
  · refine ⟨.give f t, some (.int n), some (.str x), ⟨hfn, tok⟩, ?_⟩
    simp [d16, d4, pow10_60, mn, mrn, ai, gl, gc, m3', af, m4', mj, ht, lz, Stp.d]
  · refine ⟨.put x t, some (.int n), some (.str x), ⟨hxn, tok⟩, ?_⟩
    simp [d16, d4, pow10_60, mn, mrn, ai, gl, gc, m3', af, m4', mj, ht, lz, Stp.d]
  · refine ⟨.jump t rj, some (.int n), some (.str x), ⟨tok, by omega, by omega⟩, ?_⟩
    simp [d16, d4, pow10_60, mn, mrn, ai, gl, gc, m3', af, m4', mj, ht, lz, Stp.d]
theorem steps_ok (names fs : List Str) (hn : names ≠ []) (hf : fs.length = 3) (cells : List Int) (hc : cells.length ≤ 100) :
    ∃ S : List Stp, S.length = cells.length ∧ (∀ s ∈ S, s.ok names fs cells.length) ∧ Lh.m__law_steps [.nd .lst false (cells.map D.int), .nd .lst false (names.map D.str), .nd .lst false (fs.map D.str)] = .ok (.lst true (S.map Stp.d)) := by
  obtain ⟨s', e, S, e4, e5, e6, h1, h2, rfl⟩ := forL_all D.int (g := gtName 4) (body := Lh.b__law_steps_0) (fun r s => ∃ S e4 e5 e6, S.length + r.length = cells.length ∧ (∀ x ∈ S, Stp.ok names fs cells.length x) ∧ s = [some (.nd .lst false (cells.map D.int)), some (.nd .lst false (names.map D.str)), some (.nd .lst false (fs.map D.str)), some (.lst true (S.map Stp.d)), e4, e5, e6]) cells (fun c r s hp ⟨S, e4, e5, e6, h1, h2, hs⟩ => by
    subst hs
    simp at h1
    obtain ⟨x, g5, g6, k1, k2⟩ := steps_turn names fs hn hf cells hc S h2 (by omega) c e5 e6
    refine ⟨_, _, rfl, .inl k2, S ++ [x], some (.int c), g5, g6, by simp; omega, fun y hy => ?_, rfl⟩
    rcases List.mem_append.mp hy with hy | hy
    · exact h2 y hy
    · rw [List.mem_singleton.mp hy]; exact k1) [some (.nd .lst false (cells.map D.int)), some (.nd .lst false (names.map D.str)), some (.nd .lst false (fs.map D.str)), some (.lst true (([] : List Stp).map Stp.d)), none, none, none] ⟨[], _, _, _, by simp, by simp, rfl⟩
  refine ⟨S, by simpa using h1, h2, ?_⟩
  have f0 : frzL (cells.map D.int) = cells.map D.int := by simp
  simp at e
  unfold Lh.m__law_steps
  rw [fnD_eq]
  simp [f0, e]
@[simp] theorem Ws.own_d (ws : Ws) : VL.own (As.d true ws.a) = true := by
  unfold As.d
  simp [own_dct]
@[simp] theorem Ws.shr_d (ws : Ws) : VL.shr (As.d false ws.a) = true := by
  unfold As.d
  simp [shr_dct]
@[simp] theorem sO_oFz (f : Fo) (k : D → Slots → Out) (s : Slots) : sO (oFz f) k s = sO f (fun d s => k (VL.frz d) s) s := by
  unfold sO oFz
  cases f s <;> rfl
@[simp] theorem sO_oIx (f : Fo) (kb : Fb) (k : D → Slots → Out) (s : Slots) : sO (oIx f kb) k s = sO f (fun d s1 => (kb s1).out s1 fun kd s2 => (Rb.of (VL.gIx d kd)).out s2 fun e s => if VL.shr e = true then k e s else .stuck) s := by
  unfold sO oIx Ro.bind
  cases f s with
  | ok d s1 =>
    simp only []
    cases kb s1 with
    | ok kd =>
      simp only [Rb.ro, Rb.out_ok]
      cases VL.gIx d kd with
      | none => rfl
      | some e =>
        by_cases h : VL.shr e = true
        · simp [h, Rb.of]
        · simp [h, Rb.of]
    | err c => rfl
    | stuck => rfl
  | err c s1 => rfl
  | stuck => rfl
@[simp] theorem sO_oBin (g : D → D → Option D) (f h : Fo) (k : D → Slots → Out) (s : Slots) : sO (oBin g f h) k s = sO f (fun d1 s1 => sO h (fun d2 s2 => (Rb.of (g d1 d2)).out s2 k) s1) s := by
  unfold sO oBin Ro.bind
  cases f s with
  | ok d s1 =>
    simp only []
    cases h s1 with
    | ok d2 s2 =>
      simp only []
      cases g d d2 <;> simp [Rb.of]
    | err c s2 => rfl
    | stuck => rfl
  | err c s1 => rfl
  | stuck => rfl
@[simp] theorem sSet_o (i : Nat) (f : Fo) (s : Slots) : sSet i f s = sO f (fun d s => .nx (s.set i (some d))) s := id rfl
@[simp] theorem orD_t (y : Rb D) : orD (.bl true) y = .ok (.bl true) := id rfl
@[simp] theorem andD_f (y : Rb D) : andD (.bl false) y = .ok (.bl false) := id rfl
/-- what an island would do -/
inductive Wsh where
  | non | take (f : Str) | give (f : Str) (v : Int) | own
def Wsh.d : Wsh → D
  | .non => .non
  | .take f => .tup [.str "take", .str f]
  | .give f v => .tup [.str "give", .str f, .int v]
  | .own => .tup [.str "own"]
def Stp.wish (w : Nat) (ws : Ws) : Stp → Option Wsh
  | .take f _ => some (.take f)
  | .give f t => (t.worth w ws).map fun v => .give f v
  | .put _ _ => some .own
  | .jump _ _ => some .own
@[simp] theorem str_take_ne : ((("take" : Str) = "give") = False) ∧ ((("put" : Str) = "take") = False) := ⟨by decide, by decide⟩
def Stp.nm : Stp → Str
  | .take _ _ => "take"
  | .give _ _ => "give"
  | .put _ _ => "put"
  | .jump _ _ => "jump"
@[simp] theorem Stp.gIx0 (s : Stp) : VL.gIx s.d (.int 0) = some (.str s.nm) := by cases s <;> simp [Stp.d, Stp.nm]
theorem wish_ok {w : Nat} {ws : Ws} (hw : w ≤ 64) (ok : ws.ok w) (k : Kd) (hk : k = .tup ∨ k = .lst) (S : List Stp) (n : Nat) (h : n < S.length) (hd : ∀ s ∈ S, ∀ t ∈ s.terms, t.dep ≤ 45) (x : Wsh) (hx : S[n].wish w ws = some x) :
    Pg.m_wish [.int w, .nd k false (S.map Stp.d), .int n, Ws.d false ws] = .ok x.d := by
  have ai := atI_map Stp.d S n h
  have gl : gLen [.nd k false (S.map Stp.d)] = some (.int S.length) := by
    rcases hk with rfl | rfl <;> simp [gLen]
  have gi : gIx (.nd k false (S.map Stp.d)) (.int n) = some S[n].d := by
    rcases hk with rfl | rfl <;> simp [ai]
  have hd := hd S[n] (List.getElem_mem _)
  have hne : ¬ ((n : Int) = S.length) := by omega
  unfold Pg.m_wish
  rw [fnD_eq]
  generalize S[n] = s at *
  cases s with
  | take f v =>
    cases hx
    simp [gl, hne, gi, Stp.nm, Wsh.d]
    simp [Stp.d]
  | give f t =>
    simp [Stp.wish] at hx
    obtain ⟨v, hv, rfl⟩ := hx
    have wo := worth_ok hw ok 45 t v (hd t (by simp [Stp.terms])) hv
    simp [gl, hne, gi, Stp.nm, Wsh.d]
    simp [Stp.d, wo]
  | put v t =>
    cases hx
    simp [gl, hne, gi, Stp.nm, Wsh.d]
  | jump t m =>
    cases hx
    simp [gl, hne, gi, Stp.nm, Wsh.d]
/-- what a step leads to -/
def Stp.after (w : Nat) (ws : Ws) (n : Nat) (word : Int) : Stp → Option (Int × Ws)
  | .take _ v => some (n + 1, ws.put v word)
  | .give _ _ => some (n + 1, ws)
  | .put v t => (t.worth w ws).map fun x => (n + 1, ws.put v x)
  | .jump t m => (t.worth w ws).map fun x => (if x ≠ 0 then m else n + 1, ws)
theorem after_ok {w : Nat} {ws : Ws} (hw : w ≤ 64) (ok : ws.ok w) (hl : ws.length ≤ 900) (k : Kd) (hk : k = .tup ∨ k = .lst) (S : List Stp) (n : Nat) (h : n < S.length) (hd : ∀ s ∈ S, ∀ t ∈ s.terms, t.dep ≤ 45) (wd : D) (word : Int) (hwd : ∀ f v, S[n] = .take f v → wd = .int word)
    (hs : VL.shr wd = true) (n' : Int) (ws' : Ws) (hx : S[n].after w ws n word = some (n', ws')) :
    Pg.m_after [.int w, .nd k false (S.map Stp.d), .int n, Ws.d false ws, wd] = .ok (.tup [.int n', Ws.d true ws']) := by
  have ai := atI_map Stp.d S n h
  have gi : gIx (.nd k false (S.map Stp.d)) (.int n) = some S[n].d := by
    rcases hk with rfl | rfl <;> simp [ai]
  have hd := hd S[n] (List.getElem_mem _)
  have gd : gDictU [Ws.d false ws] = some (Ws.d true ws) := gDictU_dct _ _ _ (by simp)
  have sI := fun s i π (x : Str) (v : Int) => As.setItems (s := s) (i := i) (π := π) (x := x) (v := .int v) (l := ws.a) (by simp [Ws.a]; omega)
  unfold Pg.m_after
  rw [fnD_eq]
  generalize S[n] = s at *
  cases s with
  | take f v =>
    have := hwd f v rfl
    subst this
    cases hx
    simp [gi, Stp.nm, gd]
    simp [Stp.d, sI, Ws.a_put]
  | give f t =>
    cases hx
    simp [gi, Stp.nm, gd]
  | put v t =>
    simp [Stp.after] at hx
    obtain ⟨x, hv, rfl, rfl⟩ := hx
    have wo := worth_ok hw ok 45 t x (hd t (by simp [Stp.terms])) hv
    simp [gi, Stp.nm, gd]
    simp [Stp.d, wo, sI, Ws.a_put]
  | jump t m =>
    simp [Stp.after] at hx
    obtain ⟨x, hv, hn, rfl⟩ := hx
    have wo := worth_ok hw ok 45 t x (hd t (by simp [Stp.terms])) hv
    by_cases q : x = 0
    · subst q
      simp at hn
      simp [gi, Stp.nm, gd]
      simp [Stp.d, wo, hn]
    · simp [q] at hn
      simp [gi, Stp.nm, gd]
      simp [Stp.d, wo, hn, q]
theorem wish_end {w : Nat} {ws : Ws} (k : Kd) (hk : k = .tup ∨ k = .lst) (S : List Stp) :
    Pg.m_wish [.int w, .nd k false (S.map Stp.d), .int S.length, Ws.d false ws] = .ok .non := by
  have gl : gLen [.nd k false (S.map Stp.d)] = some (.int S.length) := by
    rcases hk with rfl | rfl <;> simp [gLen]
  unfold Pg.m_wish
  rw [fnD_eq]
  simp [gl]
theorem ferr_comp {s : Slots} {i j n : Nat} (hij : i ≠ j) (hj : j < s.length) (hs : s[i]? = some (some (.int n))) :
    bLcR1 (bC (.int 3)) (gtName j) cYes (bCall Lh.m__law_name (bCons (bVar i) (bCons (bBin gAddU (bC (.int 4)) (bVar j)) bNil))) [j] s = .ok (.lst true (([nameS n 4, nameS n 5, nameS n 6]).map D.str)) := by
  have e : compL (gtName j) cYes (bCall Lh.m__law_name (bCons (bVar i) (bCons (bBin gAddU (bC (.int 4)) (bVar j)) bNil))) [j] ((List.range 3).map fun i => .int (i : Nat)) s = .ok ((List.range 3).map fun i => .str (nameS n (4 + i))) :=
    compL_map _ _ _ fun x hx => by
      have hx := List.mem_range.mp hx
      refine ⟨_, rfl, ?_⟩
      have b1 : bVar i (s.set j (some (.int (x : Nat)))) = .ok (.int n) := by
        unfold bVar; rw [List.getElem?_set_ne (Ne.symm hij), hs]
      have b2 : bVar j (s.set j (some (.int (x : Nat)))) = .ok (.int (x : Nat)) := by
        unfold bVar; rw [List.getElem?_set_self hj]
      have nm : Lh.m__law_name [.int n, .int (4 + (x : Int))] = .ok (.str (nameS n (4 + x))) := name_ok n (4 + x) (by omega)
      simp [bCall, bCons, bNil, b1, b2, bBin, bC, Rb.bind, Rb.of, gAdd_int, nm]
  have := bLcR1_eq (f := bC (.int 3)) (s := s) (n := 3) (id rfl) (by omega) e (by simp)
  rw [this]; rfl
end VL
namespace Gk15
open PySem PyProof.Rows L2 VL
open PySem.Spec hiding Tm
theorem words_loop (W : Nat) (ns : List Int) (a b d f g h i j k l m n o : Option D) : ∀ (names : List Str) (ws : Ws) (ok : ws.ok W) (hl : ws.length + names.length ≤ 900) (x : Option D),
    ∃ ws' x', ws'.ok W ∧ (ws.uniq → ws'.uniq) ∧ ws'.length ≤ ws.length + names.length ∧ ws'.has names ∧ (∀ x v, ws.get x = some v → ∃ v', ws'.get x = some v') ∧ forL (gtName 9) b_law_0 (names.map D.str) [some (.nd .lst false (ns.map D.int)), a, b, some (.int (2 ^ W)), d, f, g, h, some (Ws.d true ws), x, i, j, k, l, m, n, o] =
      .nx [some (.nd .lst false (ns.map D.int)), a, b, some (.int (2 ^ W)), d, f, g, h, some (Ws.d true ws'), x', i, j, k, l, m, n, o]
  | [], ws, ok, hl, x => ⟨ws, x, ok, id, by simp, fun x hx => absurd hx (by simp), fun x v h => ⟨v, h⟩, id rfl⟩
  | y :: names, ws, ok, hl, x => by
    have p0 := pow2_pos W
    have c1 : Lh.m__law_cell_at [.nd .lst false (ns.map D.int), .int 1] = .ok (.int (cellAt ns 1)) := cell_at_ok ns 1
    have d64 : gDiv (.int (cellAt ns 1)) (.int 64) = some (.int (cellAt ns 1 / 64)) := gDiv_i (by decide) (by decide)
    generalize cellAt ns 1 / 64 = q at *
    have gl : gLen [Ws.d true ws] = some (.int ws.length) := by simp [gLen, As.d, Ws.a, As.ks, As.vs]
    simp at hl
    have mu : gMulU (.int 3) (.int (ws.length : Int)) = some (.int (3 * (ws.length : Int))) := gMul_b (by decide) (by decide) (by omega) (by omega)
    obtain ⟨v, hv⟩ : ∃ v, v = (q + 3 * (ws.length : Int)) % 2 ^ W := ⟨_, rfl⟩
    have mt : gMod (.int (q + 3 * (ws.length : Int))) (.int (2 ^ W)) = some (.int v) := by rw [hv]; exact gMod_i p0
    have b1 : 0 ≤ v ∧ v < 2 ^ W := by rw [hv]; exact ⟨Int.emod_nonneg _ (Int.ne_of_gt p0), Int.emod_lt_of_pos _ p0⟩
    have pl := Ws.put_length ws y v
    obtain ⟨ws', f', k1, ku, k2, k3, k4, k5⟩ := words_loop W ns a b d f g h i j k l m n o names (ws.put y v) (Ws.ok_put ok b1) (by omega) (some (.str y))
    have sI := fun s i π => As.setItems (s := s) (i := i) (π := π) (x := y) (v := .int v) (l := ws.a) (by simp [Ws.a]; omega)
    refine ⟨ws', f', k1, fun q => ku (Ws.uniq_put q _ _), by simp; omega, fun z hz => ?_, fun z u hz => ?_, ?_⟩
    · rcases List.mem_cons.mp hz with rfl | hz
      · exact k4 z _ (by rw [Ws.get_put, if_pos rfl])
      · exact k3 z hz
    · by_cases q : y = z
      · exact k4 z _ (by rw [Ws.get_put, if_pos q])
      · exact k4 z u (by rw [Ws.get_put, if_neg q]; exact hz)
    · rw [List.map_cons, forL_cons]
      generalize (2 : Int) ^ W = top at *
      have e1 : b_law_0 [some (.nd .lst false (ns.map D.int)), a, b, some (.int top), d, f, g, h, some (Ws.d true ws), some (.str y), i, j, k, l, m, n, o] = .nx [some (.nd .lst false (ns.map D.int)), a, b, some (.int top), d, f, g, h, some (Ws.d true (ws.put y v)), some (.str y), i, j, k, l, m, n, o] := by
        unfold b_law_0
        simp [c1, d64, gl, mu, mt, sI, Ws.a_put]
      simp [e1, k5]
theorem due_ok {w : Nat} {ws : Ws} (h0 : 1 ≤ w) (hw : w ≤ 64) (ok : ws.ok w) (hl : ws.length ≤ 900) (s : Stp) (n : Nat) (hd : ∀ t ∈ s.terms, t.dep ≤ 45 ∧ ws.has t.vars) (wd : D) (word : Int) (hwd : ∀ f v, s = .take f v → wd = .int word) (n' : Int) (ws' : Ws) (hx : s.after w ws n word = some (n', ws')) :
    Lh.m__law_due [s.d, .int n, .int (2 ^ w), Ws.d false ws, wd] = .ok (.tup [.int n', Ws.d true ws']) := by
  have gd : gDictU [Ws.d false ws] = some (Ws.d true ws) := gDictU_dct _ _ _ (by simp)
  have sI := fun s i π (x : Str) (v : Int) => As.setItems (s := s) (i := i) (π := π) (x := x) (v := .int v) (l := ws.a) (by simp [Ws.a]; omega)
  unfold Lh.m__law_due
  rw [fnD_eq]
  cases s with
  | take f v =>
    have := hwd f v rfl
    subst this
    cases hx
    simp [Stp.nm, gd]
    simp [Stp.d, sI, Ws.a_put]
  | give f t =>
    cases hx
    simp [Stp.nm, gd]
  | put v t =>
    simp [Stp.after] at hx
    obtain ⟨x, hv, rfl, rfl⟩ := hx
    have hd := hd t (by simp [Stp.terms])
    have wo := value_ok h0 hw ok 45 t x hd.1 hd.2 hv
    generalize (2 : Int) ^ w = top at *
    simp [Stp.nm, gd]
    simp [Stp.d, wo, sI, Ws.a_put]
  | jump t m =>
    simp [Stp.after] at hx
    obtain ⟨x, hv, hn, rfl⟩ := hx
    have hd := hd t (by simp [Stp.terms])
    have wo := value_ok h0 hw ok 45 t x hd.1 hd.2 hv
    have nn := (Tm.worth_in ok hv).1
    generalize (2 : Int) ^ w = top at *
    by_cases q : x = 0
    · subst q
      simp at hn
      simp [Stp.nm, gd]
      simp [Stp.d, wo, hn]
    · have q' : 0 < x := by omega
      simp [q] at hn
      simp [Stp.nm, gd]
      simp [Stp.d, wo, hn, q']
theorem kOkL_stp (S : List Stp) : kOkL (S.map Stp.d) = true := kOkL_iff.mpr fun d hd => by
  obtain ⟨s, _, rfl⟩ := List.mem_map.mp hd
  exact s.kOk_d
theorem after_some {w : Nat} {ws : Ws} {s : Stp} {n : Nat} {word : Int} (L : Nat) (ok : ws.ok w) (hw : 0 ≤ word ∧ word < 2 ^ w) (hn : n < L) (hd : ∀ t ∈ s.terms, ws.has t.vars) (hj : ∀ t m, s = .jump t m → 0 ≤ m ∧ m ≤ (L : Int)) :
    ∃ (n' : Nat) (ws' : Ws), s.after w ws n word = some ((n' : Int), ws') ∧ n' ≤ L ∧ ws'.ok w ∧ (ws.uniq → ws'.uniq) ∧ (∀ x v, ws.get x = some v → ∃ v', ws'.get x = some v') := by
  have put : ∀ (x : Str) (v : Int) (y : Str) (u : Int), ws.get y = some u → ∃ v', (ws.put x v).get y = some v' := fun x v y u hy => by
    rw [Ws.get_put]
    split
    · exact ⟨v, rfl⟩
    · exact ⟨u, hy⟩
  cases s with
  | take f v => exact ⟨n + 1, ws.put v word, rfl, by omega, Ws.ok_put ok hw, fun q => Ws.uniq_put q _ _, put v word⟩
  | give f t => exact ⟨n + 1, ws, rfl, by omega, ok, id, fun x v h => ⟨v, h⟩⟩
  | put v t =>
    obtain ⟨x, hx⟩ := Tm.worth_some (w := w) t (hd t (by simp [Stp.terms]))
    exact ⟨n + 1, ws.put v x, by simp [Stp.after, hx], by omega, Ws.ok_put ok (Tm.worth_in ok hx), fun q => Ws.uniq_put q _ _, put v x⟩
  | jump t m =>
    obtain ⟨x, hx⟩ := Tm.worth_some (w := w) t (hd t (by simp [Stp.terms]))
    have hm := hj t m rfl
    by_cases q : x = 0
    · exact ⟨n + 1, ws, by simp [Stp.after, hx, q], by omega, ok, id, fun x v h => ⟨v, h⟩⟩
    · exact ⟨m.toNat, ws, by simp [Stp.after, hx, q]; omega, by omega, ok, id, fun x v h => ⟨v, h⟩⟩
theorem tupAt1 (a b : D) (i : Nat) (π : List Nat) : ixP (i, π, .nd .tup false [a, b]) (.int 1) = .ok (i, π ++ [1], b) := id rfl
theorem sClr_14 (a0 a1 a2 a3 a4 a5 a6 a7 a8 a9 a10 a11 a12 a13 a15 a16 : Option D) (n : D) (ws : Ws) :
    sClr (pIx (pName 14) (bC (.int 1))) [a0, a1, a2, a3, a4, a5, a6, a7, a8, a9, a10, a11, a12, a13, some (.tup [n, Ws.d true ws]), a15, a16] =
    .nx [a0, a1, a2, a3, a4, a5, a6, a7, a8, a9, a10, a11, a12, a13, some (.tup [n, Ws.d true []]), a15, a16] := by
  rfl
theorem turn (names : List Str) (hnm : ∀ x ∈ names, Nm x) (hn : names.length ≤ 10) (W : Nat) (h1 : 1 ≤ W) (h2 : W ≤ 64) (S : List Stp) (hl : S.length ≤ 100) (hl1 : 1 ≤ S.length) (fs : List Str) (hS : ∀ s ∈ S, s.ok names fs S.length) (ws : Ws) (ok : ws.ok W) (uq : ws.uniq) (wl : ws.length ≤ 500) (has : ws.has names) (n : Nat) (hln : n ≤ S.length) (c : Int) (a b f e9 e11 e12 e13 e14 e15 g : Option D) :
    ∃ (n' : Nat) (ws' : Ws) (f9 f11 f12 f13 f14 f15 : Option D), n' ≤ S.length ∧ ws'.ok W ∧ ws'.uniq ∧ ws'.length ≤ ws.length + 1 ∧ ws'.has names ∧ b_law_1 [a, b, some (.int W), some (.int (2 ^ W)), some (.nd .lst false (names.map D.str)), f, some (.lst true (S.map Stp.d)), some (.int n), some (Ws.d true ws), e9, some (.int c), e11, e12, e13, e14, e15, g] =
      .nx [a, b, some (.int W), some (.int (2 ^ W)), some (.nd .lst false (names.map D.str)), f, some (.lst true (S.map Stp.d)), some (.int n'), some (Ws.d true ws'), f9, some (.int c), f11, f12, f13, f14, f15, g] := by
  have p0 := pow2_pos W
  have gl := gLen_map Stp.d true S
  have d4 : gDiv (.int c) (.int 4) = some (.int (c / 4)) := gDiv_i (by decide) (by decide)
  have d64 : gDiv (.int c) (.int 64) = some (.int (c / 64)) := gDiv_i (by decide) (by decide)
  generalize c / 4 = q4 at *
  generalize c / 64 = q64 at *
  obtain ⟨r4, m4, _, l4⟩ := gMod_lit (n := c) 4 (by decide)
  have m4' : gMod (.int c) (.int 4) = some (.int r4) := m4
  obtain ⟨k, mk, _, lk⟩ := gMod_in (n := q4) (m := (S.length : Int)) (by omega)
  obtain ⟨wd, hwd⟩ : ∃ wd, wd = q64 % 2 ^ W := ⟨_, rfl⟩
  have mt : gMod (.int q64) (.int (2 ^ W)) = some (.int wd) := by rw [hwd]; exact gMod_i p0
  have bw : 0 ≤ wd ∧ wd < 2 ^ W := by rw [hwd]; exact ⟨Int.emod_nonneg _ (Int.ne_of_gt p0), Int.emod_lt_of_pos _ p0⟩
  -- the step
  obtain ⟨i, hi, hi2⟩ : ∃ i : Nat, i < S.length ∧ i = if n = S.length ∨ r4 = 3 then k else n := by
    by_cases q : n = S.length ∨ r4 = 3
    · exact ⟨k, by omega, by rw [if_pos q]⟩
    · exact ⟨n, by omega, by rw [if_neg q]⟩
  have ai := atI_map Stp.d S i hi
  obtain ⟨s, hs, hsS⟩ : ∃ s, S[i] = s ∧ s ∈ S := ⟨_, rfl, List.getElem_mem _⟩
  have tok : ∀ s ∈ S, ∀ t ∈ s.terms, TmOk names t := fun s hs t ht => by
    have := hS s hs
    cases s <;> simp [Stp.terms, Stp.ok] at ht this <;> subst ht
    · exact this.2
    · exact this.2
    · exact this.1
  have hdS : ∀ s ∈ S, ∀ t ∈ s.terms, t.dep ≤ 45 := fun s hs t ht => by have := (tok s hs t ht).dep; omega
  have hds : ∀ t ∈ s.terms, t.dep ≤ 45 ∧ ws.has t.vars := fun t ht => ⟨hdS s hsS t ht, fun x hx => has x ((tok s hsS t ht).vars x hx)⟩
  obtain ⟨n', ws', ha, b1, b2, b3, b4⟩ := after_some (s := s) (n := i) (word := wd) S.length ok bw hi (fun t ht => (hds t ht).2) (fun t m e => by
    have := hS s hsS
    subst e
    exact ⟨this.2.1, this.2.2⟩)
  have wl' : ws'.length ≤ ws.length + 1 := by
    cases s <;> simp [Stp.after] at ha
    · rw [← ha.2]; exact Ws.put_length _ _ _
    · rw [← ha.2]; omega
    · obtain ⟨_, _, _, e⟩ := ha; rw [← e]; exact Ws.put_length _ _ _
    · obtain ⟨_, _, _, e⟩ := ha; rw [← e]; omega
  have has' : ws'.has names := fun x hx => by
    obtain ⟨v, hv⟩ := has x hx
    exact b4 x v hv
  obtain ⟨wv, hwv1, hwv2, hwv3⟩ : ∃ wv : D, (wv = if s.nm = "take" then .int wd else .non) ∧ (∀ f v, s = .take f v → wv = .int wd) ∧ VL.shr wv = true := by
    cases s with
    | take f v => exact ⟨.int wd, rfl, fun _ _ _ => rfl, rfl⟩
    | give f v => exact ⟨.non, rfl, fun _ _ h => by simp at h, rfl⟩
    | put f v => exact ⟨.non, rfl, fun _ _ h => by simp at h, rfl⟩
    | jump f v => exact ⟨.non, rfl, fun _ _ h => by simp at h, rfl⟩
  have fwv : VL.frz wv = wv := by
    rw [hwv1]; split <;> rfl
  have du := due_ok h1 h2 ok (by omega) s i hds wv wd hwv2 _ _ ha
  have gd : ∀ m, gDictU [Ws.d m ws] = some (Ws.d true ws) := fun m => gDictU_dct _ _ _ (by simp)
  have ha' : S[i].after W ws i wd = some ((n' : Int), ws') := by rw [hs]; exact ha
  have hwv2' : ∀ f v, S[i] = .take f v → wv = .int wd := by rw [hs]; exact hwv2
  have a1 := after_ok h2 ok (by omega) .tup (.inl rfl) S i hi hdS wv wd hwv2' hwv3 _ _ ha'
  have a2 := after_ok h2 ok (by omega) .lst (.inr rfl) S i hi hdS wv wd hwv2' hwv3 _ _ ha'
  have g1 : gList [.nd .lst true (S.map Stp.d)] = some (.lst true (S.map Stp.d)) := gList_lst _ _ (by simp)
  have g2 : gTuple [.nd .lst true (S.map Stp.d)] = some (.tup (S.map Stp.d)) := gTuple_lst _ _ (by simp)
  have eqW := eqU_ws uq true true
  have eqD : VL.eqU (.tup [.int n', Ws.d true ws']) (.tup [.int n', Ws.d true ws']) = some true := eqU_same (by simp [kOk, kOkL, kOk_ws (b3 uq)]) (by
    have := dep_ws ws' true
    simp only [VL.dep, depL]; omega) rfl
  rw [hs] at ai
  have cmp : ∀ (x9 x12 x13 x15 : Option D), VL.bLc (bVar 4) (gtName 9) (fNot (tsTru (bCall Lh.m__law_whole (bCons (bBin gIx (bBin gIx (bVar 14) (bC (.int 1))) (bVar 9)) bNil)))) (fShr (bVar 9)) [9] [a, b, some (.int W), some (.int (2 ^ W)), some (.nd .lst false (names.map D.str)), f, some (.lst true (S.map Stp.d)), some (.int i), some (Ws.d true ws), x9, some (.int c), some wv, x12, x13, some (.tup [.int n', Ws.d true ws']), x15, g] = .ok (.lst true []) := fun x9 x12 x13 x15 => by
    have e := compL_filt (g := gtName 9) (c := fNot (tsTru (bCall Lh.m__law_whole (bCons (bBin gIx (bBin gIx (bVar 14) (bC (.int 1))) (bVar 9)) bNil)))) (el := fShr (bVar 9)) (vs := [9]) (s := [a, b, some (.int W), some (.int (2 ^ W)), some (.nd .lst false (names.map D.str)), f, some (.lst true (S.map Stp.d)), some (.int i), some (Ws.d true ws), x9, some (.int c), some wv, x12, x13, some (.tup [.int n', Ws.d true ws']), x15, g]) D.str D.str (fun _ => false) names (fun x hx => by
      obtain ⟨v, hv⟩ := has' x hx
      have g0 : As.get ws'.a x = some (.int v) := by rw [Ws.a_get, hv]; rfl
      refine ⟨_, rfl, ?_, fun h => by cases h⟩
      generalize (2 : Int) ^ W = top at *
      simp [g0, whole_int])
    exact bLc_eq (d := .nd .lst false (names.map D.str)) rfl rfl (by simp) (by rw [e, List.filter_eq_nil_iff.mpr (by simp)]; rfl) (by simp)
  refine ⟨n', ws', e9, some wv, none, some (Ws.d true ws), some (.tup [.int n', Ws.d true []]), some (.lst true []), b1, b2, b3 uq, wl', has', ?_⟩
  have en : VL.eqU (.lst true []) (.lst true []) = some true := eqU_same (by simp [kOk, kOkL]) (by simp [VL.dep, depL]) rfl
  have cl := fun a0 a1 a2 a3 a4 a5 a6 a7 a8 a9 a10 a11 a12 a13 a15 a16 n ws => sClr_14 a0 a1 a2 a3 a4 a5 a6 a7 a8 a9 a10 a11 a12 a13 a15 a16 n ws
  generalize (2 : Int) ^ W = top at *
  unfold b_law_1
  by_cases q : s.nm = "take"
  · rw [if_pos q] at hwv1
    subst hwv1
    by_cases q1 : (n : Int) = S.length
    · rw [if_pos (.inl (by omega))] at hi2
      subst hi2
      simp [-VL.bLc_by, gl, q1, m4', d4, mk, ai, q, d64, mt, du, gd, g2, a1, fwv, eqD, eqW, cmp, en, whole_int, cl, g1, a2]
    · by_cases q2 : (r4 : Int) = 3
      · rw [if_pos (.inr (by omega))] at hi2
        subst hi2
        simp [-VL.bLc_by, gl, q1, m4', q2, d4, mk, ai, q, d64, mt, du, gd, g2, a1, fwv, eqD, eqW, cmp, en, whole_int, cl, g1, a2]
      · rw [if_neg (by omega)] at hi2
        subst hi2
        simp [-VL.bLc_by, gl, q1, m4', q2, d4, mk, ai, q, d64, mt, du, gd, g2, a1, fwv, eqD, eqW, cmp, en, whole_int, cl, g1, a2]
  · rw [if_neg q] at hwv1
    subst hwv1
    by_cases q1 : (n : Int) = S.length
    · rw [if_pos (.inl (by omega))] at hi2
      subst hi2
      simp [-VL.bLc_by, gl, q1, m4', d4, mk, ai, q, d64, mt, du, gd, g2, a1, fwv, eqD, eqW, cmp, en, whole_int, cl, g1, a2]
    · by_cases q2 : (r4 : Int) = 3
      · rw [if_pos (.inr (by omega))] at hi2
        subst hi2
        simp [-VL.bLc_by, gl, q1, m4', q2, d4, mk, ai, q, d64, mt, du, gd, g2, a1, fwv, eqD, eqW, cmp, en, whole_int, cl, g1, a2]
      · rw [if_neg (by omega)] at hi2
        subst hi2
        simp [-VL.bLc_by, gl, q1, m4', q2, d4, mk, ai, q, d64, mt, du, gd, g2, a1, fwv, eqD, eqW, cmp, en, whole_int, cl, g1, a2]
theorem law_ok (ns : List Int) (hl : ns.length ≤ 63) : m_law [scriptD ns] = .ok (.bl true) := by
  have c0 : Lh.m__law_cell_at [.nd .lst false (ns.map D.int), .int 0] = .ok (.int (cellAt ns 0)) := cell_at_ok ns 0
  have c1 : Lh.m__law_cell_at [.nd .lst false (ns.map D.int), .int 1] = .ok (.int (cellAt ns 1)) := cell_at_ok ns 1
  have c2 : Lh.m__law_cell_at [.nd .lst false (ns.map D.int), .int 2] = .ok (.int (cellAt ns 2)) := cell_at_ok ns 2
  obtain ⟨N, hN, _, _⟩ := gMod_lit (n := cellAt ns 0) 1000000000 (by decide)
  have hN' : gMod (.int (cellAt ns 0)) (.int 1000000000) = some (.int N) := hN
  obtain ⟨w0, hw, _, lw⟩ := gMod_lit (n := cellAt ns 1) 64 (by decide)
  have hw' : gMod (.int (cellAt ns 1)) (.int 64) = some (.int w0) := hw
  obtain ⟨k, hk, _, lk⟩ := gMod_lit (n := cellAt ns 2) 4 (by decide)
  have hk' : gMod (.int (cellAt ns 2)) (.int 4) = some (.int k) := hk
  have d4 : gDiv (.int (cellAt ns 2)) (.int 4) = some (.int (cellAt ns 2 / 4)) := gDiv_i (by decide) (by decide)
  obtain ⟨q, hq, _, lq⟩ := gMod_lit (n := cellAt ns 2 / 4) 12 (by decide)
  have hq' : gMod (.int (cellAt ns 2 / 4)) (.int 12) = some (.int q) := hq
  generalize cellAt ns 2 / 4 = c24 at *
  obtain ⟨K, hK⟩ : ∃ K : Nat, K = 1 + k := ⟨_, rfl⟩
  have eK : (1 : Int) + (k : Int) = (K : Int) := by omega
  obtain ⟨Q, hQ⟩ : ∃ Q : Nat, Q = 1 + q := ⟨_, rfl⟩
  have eQ : (1 : Int) + (q : Int) = (Q : Int) := by omega
  have s1 : gSl (.nd .lst false (ns.map D.int)) (some 3) (some 15) = some (.lst true ((cutA ns (some 3) (some 15)).map D.int)) := gSl_ints false ns (some 3) (some 15)
  have l1 : (cutA ns (some 3) (some 15)).length ≤ 12 := cutA_len ns 3 15
  have ad : gAddU (.nd .lst true ((cutA ns (some 3) (some 15)).map D.int)) (.nd .lst true [.int 0]) = some (.lst true ((cutA ns (some 3) (some 15) ++ [0]).map D.int)) := by
    rw [gAdd_lst (by simp) (by simp) (by simp; omega), List.map_append]; rfl
  generalize hM : cutA ns (some 3) (some 15) ++ [0] = M at *
  have lM : 1 ≤ M.length ∧ M.length ≤ 13 := by rw [← hM]; simp; omega
  have s3 := gSl_ints true M none (some (Q : Int))
  have l3 : (cutA M none (some (Q : Int))).length ≤ 12 ∧ 1 ≤ (cutA M none (some (Q : Int))).length := by
    rw [cutA_hi, List.length_take]; omega
  have s2 : gSl (.nd .lst false (ns.map D.int)) (some 15) (some 95) = some (.lst true ((cutA ns (some 15) (some 95)).map D.int)) := gSl_ints false ns (some 15) (some 95)
  have l2 : (cutA ns (some 15) (some 95)).length ≤ 80 := cutA_len ns 15 95
  obtain ⟨W, hW⟩ : ∃ W : Nat, W = 1 + w0 := ⟨_, rfl⟩
  have eW : (1 : Int) + (w0 : Int) = (W : Int) := by omega
  have sh : gShl (.int 1) (.int (W : Int)) = some (.int (2 ^ W)) := by
    rw [gShl_one (by omega) (by omega), Int.toNat_natCast]
  have nl : (VL.namesOf N K).length = K := by simp [VL.namesOf]
  have nne : VL.namesOf N K ≠ [] := fun e => by rw [e] at nl; simp at nl; omega
  obtain ⟨S, hSl, hS, eS⟩ := steps_ok (VL.namesOf N K) [nameS N 4, nameS N 5, nameS N 6] nne rfl _ (Nat.le_trans l3.1 (by omega))
  rw [← hSl] at hS l3
  have cmp : bLcR1 (bBin gAddU (bC (.int 1)) (bBin gMod (bCall Lh.m__law_cell_at (bCons (bVar 0) (bCons (bC (.int 2)) bNil))) (bC (.int 4)))) (gtName 16) cYes (bCall Lh.m__law_name (bCons (bVar 1) (bCons (bVar 16) bNil))) [16] [some (.lst false (ns.map D.int)), some (.int N), some (.int W), some (.int (2 ^ W)), none, none, none, none, none, none, none, none, none, none, none, none, none] = .ok (.lst true ((namesOf N K).map D.str)) :=
    names_comp (by decide) (by simp) (by simp [c2, hk', eK]) (by omega) rfl
  have cm2 : bLcR1 (bC (.int 3)) (gtName 16) cYes (bCall Lh.m__law_name (bCons (bVar 1) (bCons (bBin gAddU (bC (.int 4)) (bVar 16)) bNil))) [16] [some (.lst false (ns.map D.int)), some (.int N), some (.int W), some (.int (2 ^ W)), some (.lst true ((namesOf N K).map D.str)), none, none, none, none, none, none, none, none, none, none, none, none] = .ok (.lst true (([nameS N 4, nameS N 5, nameS N 6]).map D.str)) :=
    ferr_comp (by decide) (by simp) rfl
  simp at cm2 eS
  obtain ⟨ws, x', ok, uq, wl, has, _, ew⟩ := words_loop W ns (some (.int N)) (some (.int W)) (some (.lst false ((namesOf N K).map D.str))) (some (.lst true [.str (nameS N 4), .str (nameS N 5), .str (nameS N 6)])) (some (.lst true (S.map Stp.d))) (some (.int 0)) none none none none none none none (namesOf N K) [] (by intro p hp; cases hp) (by simp; omega) none
  have ew' : forL (gtName 9) b_law_0 ((namesOf N K).map D.str) [some (.lst false (ns.map D.int)), some (.int N), some (.int W), some (.int (2 ^ W)), some (.lst false ((namesOf N K).map D.str)), some (.lst true [.str (nameS N 4), .str (nameS N 5), .str (nameS N 6)]), some (.lst true (S.map Stp.d)), some (.int 0), some (.nd (.dct []) true []), none, none, none, none, none, none, none, none] = _ := ew
  obtain ⟨s', e, n1, ws1, f9, f10, f11, f12, f13, f14, f15, q1, q2, q3, q4, q5, rfl⟩ := forL_all D.int (g := gtName 10) (body := b_law_1) (fun r s => ∃ (n : Nat) (ws1 : Ws) (f9 f10 f11 f12 f13 f14 f15 : Option D), n ≤ S.length ∧ ws1.ok W ∧ ws1.uniq ∧ ws1.length + r.length ≤ 100 ∧ ws1.has (VL.namesOf N K) ∧ s = [some (.lst false (ns.map D.int)), some (.int N), some (.int W), some (.int (2 ^ W)), some (.nd .lst false ((namesOf N K).map D.str)), some (.lst true [.str (nameS N 4), .str (nameS N 5), .str (nameS N 6)]), some (.lst true (S.map Stp.d)), some (.int n), some (Ws.d true ws1), f9, f10, f11, f12, f13, f14, f15, none]) (cutA ns (some 15) (some 95)) (fun c r s hp ⟨n, ws1, f9, f10, f11, f12, f13, f14, f15, q1, q2, q3, q4, q5, hs⟩ => by
    subst hs
    simp at q4
    obtain ⟨n', ws', g9, g11, g12, g13, g14, g15, r1, r2, r3, r4, r5, w⟩ := turn (namesOf N K) (namesOf_nm N K (by omega)) (by omega) W (by omega) (by omega) S (by omega) (by omega) _ hS ws1 q2 q3 (by omega) q5 n q1 c (some (.lst false (ns.map D.int))) (some (.int N)) (some (.lst true [.str (nameS N 4), .str (nameS N 5), .str (nameS N 6)])) f9 f11 f12 f13 f14 f15 none
    exact ⟨_, _, rfl, .inl w, n', ws', _, _, _, _, _, _, _, r1, r2, r3, by omega, r5, rfl⟩) [some (.lst false (ns.map D.int)), some (.int N), some (.int W), some (.int (2 ^ W)), some (.lst false ((namesOf N K).map D.str)), some (.lst true [.str (nameS N 4), .str (nameS N 5), .str (nameS N 6)]), some (.lst true (S.map Stp.d)), some (.int 0), some (Ws.d true ws), x', none, none, none, none, none, none, none] ⟨0, ws, _, _, _, _, _, _, _, by omega, ok, uq List.nodup_nil, by simp at wl; omega, has, rfl⟩
  generalize (2 : Int) ^ W = top at *
  unfold m_law
  rw [fnD_eq]
  simp [scriptD, c0, hN', pow10_9, c1, hw', eW, sh, cmp, cm2, c2, d4, hq', eQ, s1, ad, s3, eS]
  rw [ew']
  simp [s2]
  rw [e]
  simp
end Gk15
open PySem PySem.W PyProof.Rows in
set_option maxRecDepth 100000 in
set_option maxHeartbeats 0 in
theorem PySem.Challenge.cw_bellferry_k15_behind_a_step_holds : PySem.Challenge.rw_bellferry_k15_behind_a_step.Holds := by
  w_on; o_law; k_head; (case hw => w_witness2)
  k_fill
  refine VL.walkL (l := PySem.Challenge.rw_bellferry_k15_behind_a_step) (k := 49) (x := "script") rfl rfl ⟨rfl, by decide, by decide⟩ (fun w h Y => PySem.W.kIn_of Y) ?F
  case F =>
    intro w mg fa h KX G hmg
    refine' Gk15.all_mk Gk15.law_ok (l := PySem.Challenge.rw_bellferry_k15_behind_a_step) KX G hmg ?a_cut ?l_cut ?c_cut ?k_cut ?a_worth ?l_worth ?c_worth ?k_worth ?a_after ?l_after ?c_after ?k_after ?a__law_cell_at ?l__law_cell_at ?c__law_cell_at ?k__law_cell_at ?a__law_whole ?l__law_whole ?c__law_whole ?k__law_whole ?a__law_name ?l__law_name ?c__law_name ?k__law_name ?a__law_small ?l__law_small ?c__law_small ?k__law_small ?a__law_steps ?l__law_steps ?c__law_steps ?k__law_steps ?a__law_value ?l__law_value ?c__law_value ?k__law_value ?a__law_due ?l__law_due ?c__law_due ?k__law_due ?a_law ?l_law ?c_law ?k_law ?z_bool ?z_dict ?z_int ?z_isinstance ?z_len ?z_list ?z_range ?z_tuple
    (case a_cut => k_is)
    (case l_cut => k_is)
    (case c_cut => k_is)
    (case k_cut => k_is)
    (case a_worth => k_is)
    (case l_worth => k_is)
    (case c_worth => k_is)
    (case k_worth => k_is)
    (case a_after => k_is)
    (case l_after => k_is)
    (case c_after => k_is)
    (case k_after => k_is)
    (case a__law_cell_at => k_is)
    (case l__law_cell_at => k_is)
    (case c__law_cell_at => k_is)
    (case k__law_cell_at => k_is)
    (case a__law_whole => k_is)
    (case l__law_whole => k_is)
    (case c__law_whole => k_is)
    (case k__law_whole => k_is)
    (case a__law_name => k_is)
    (case l__law_name => k_is)
    (case c__law_name => k_is)
    (case k__law_name => k_is)
    (case a__law_small => k_is)
    (case l__law_small => k_is)
    (case c__law_small => k_is)
    (case k__law_small => k_is)
    (case a__law_steps => k_is)
    (case l__law_steps => k_is)
    (case c__law_steps => k_is)
    (case k__law_steps => k_is)
    (case a__law_value => k_is)
    (case l__law_value => k_is)
    (case c__law_value => k_is)
    (case k__law_value => k_is)
    (case a__law_due => k_is)
    (case l__law_due => k_is)
    (case c__law_due => k_is)
    (case k__law_due => k_is)
    (case a_law => k_is)
    (case l_law => k_is)
    (case c_law => k_is)
    (case k_law => k_is)
    (case z_bool => k_is)
    (case z_dict => k_is)
    (case z_int => k_is)
    (case z_isinstance => k_is)
    (case z_len => k_is)
    (case z_list => k_is)
    (case z_range => k_is)
    (case z_tuple => k_is)
