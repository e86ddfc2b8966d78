import PyProof.Rows.All
import Wide.All
import OpenK.AllK
import Wide.FinOn
import HandS.ForMost
import HandS.ForExc
import HandS.HeadHook2
import HandS.IsInst
import HandS.TupAny
import HandS.TupMul
import HandS.SortInts
import HandS.Style
import HandS.Wide
import HandS.Conv
import HandS.Iter
import HandS.Comp
import HandS.ExcOwn
import HandS.CallSlots
import HandS.Defaults
import HandS.TryMany
import HandS.ExcInit
import HandS.ExcField
import KE.GoesEnum
import HandS.Head0
import HandS.Head1
import HandS.Head2
import HandS.HeadEnd
import HandS.HeadHook1
import HandS.Ends
import HandS.Words
import HandS.WordsExc
import PySem.Challenge.RW_samewindows_k03_nodes_and_longer_windows
set_option Elab.async false
set_option linter.all false
set_option maxRecDepth 100000
set_option maxHeartbeats 4000000
/-! Dp1: values as deep data, what stands for them in the abstract heap, environments with lists that are owned. -/
namespace Z
open PySem PySem.Spec PyProof.Rows L2

/-- deep data -/
inductive D where
  | non | bl (b : Bool) | int (i : Int) | str (x : Str) | ty (n : String) | cls (C : Str)
  | tup (ds : List D) | lst (ds : List D) | scr (ds : List D)
  | ins (C : Str) (ns : List Str) (ds : List D)
  | xr (C : Str) (ns : List Str) (ds : List D)

/-- what is fixed: the written part; the exception in hand and its dict -/
structure G where
  K : PySem.W.Frag
  xa : Option (Addr × Addr) := none

def WrT (K : PySem.W.Frag) (a : Addr) (xs : List V) : Prop :=
  ∃ (o : Obj) (its : Array Value) (n : Nat), K.lookup a = some o ∧ o.cls = .type "tuple" ∧ o.data = .seq its n ∧ its.size ≤ sizeLine ∧ Vals xs its.toList
def WrL (K : PySem.W.Frag) (a : Addr) (xs : List V) : Prop :=
  ∃ (o : Obj) (its : Array Value) (n : Nat), K.lookup a = some o ∧ o.cls = .type "list" ∧ o.dict = none ∧ o.data = .seq its n ∧ its.size ≤ sizeLine ∧ Vals xs its.toList
def TupAt (K : PySem.W.Frag) (H : Hp) (M : Addr → Prop) (a : Addr) (xs : List V) : Prop := (¬ M a ∧ H a = some (.tup xs)) ∨ WrT K a xs
def LstAt (K : PySem.W.Frag) (H : Hp) (M : Addr → Prop) (a : Addr) (xs : List V) : Prop := ¬ M a ∧ H a = some (.lst xs)
def ScrAt (K : PySem.W.Frag) (H : Hp) (M : Addr → Prop) (a : Addr) (xs : List V) : Prop := (¬ M a ∧ ∃ o, H a = some (.frz o (.lst xs))) ∨ WrL K a xs
theorem ScrAt.sq {K : PySem.W.Frag} {H : Hp} {M : Addr → Prop} {a : Addr} {xs : List V} (h : ScrAt K H M a xs) : SqL K H a xs := h.elim (fun h => h.2.elim fun o e => .inl (.inr ⟨o, e⟩)) .inr
theorem TupAt.sq {K : PySem.W.Frag} {H : Hp} {M : Addr → Prop} {a : Addr} {xs : List V} (h : TupAt K H M a xs) : SqT K H a xs := h.elim (fun h => .inl (.inl h.2)) .inr
theorem LstAt.sq {K : PySem.W.Frag} {H : Hp} {M : Addr → Prop} {a : Addr} {xs : List V} (h : LstAt K H M a xs) : SqL K H a xs := .inl (.inl h.2)

mutual
/-- v stands for d in H, away from M -/
def Sh (g : G) (H : Hp) (M : Addr → Prop) : D → V → Prop
  | .non, v => v = .non
  | .bl b, v => v = .bl b
  | .int i, v => v = .int i
  | .str x, v => v = .str x
  | .ty n, v => v = .ty n
  | .cls C, v => v = .ref (He.ga g.K C)
  | .tup ds, v => ∃ a vs, v = .ref a ∧ TupAt g.K H M a vs ∧ ShL g H M ds vs
  | .lst ds, v => ∃ a vs, v = .ref a ∧ LstAt g.K H M a vs ∧ ShL g H M ds vs
  | .scr ds, v => ∃ a vs, v = .ref a ∧ ScrAt g.K H M a vs ∧ ShL g H M ds vs
  | .ins C ns ds, v => ∃ a dx vs, v = .ref a ∧ ¬ M a ∧ H a = some (.ins (He.ga g.K C) dx (ns.zip vs)) ∧ ns.length = vs.length ∧ ShL g H M ds vs
  | .xr C ns ds, v => ∃ a d vs, g.xa = some (a, d) ∧ v = .ref a ∧ ¬ M d ∧ H d = some (.xd (ns.zip vs)) ∧ ns.length = vs.length ∧ ShL g H M ds vs
def ShL (g : G) (H : Hp) (M : Addr → Prop) : List D → List V → Prop
  | [], vs => vs = []
  | d :: ds, vs => ∃ v r, vs = v :: r ∧ Sh g H M d v ∧ ShL g H M ds r
end

section
variable {g : G} {H H' : Hp} {M M' : Addr → Prop}

theorem Rd.keep {u : HO} {a : Addr} (k : ∀ a o, H a = some o → ¬ M a → H' a = some o) (n : ¬ M a) (h : Rd H a u) : Rd H' a u :=
  h.elim (fun e => .inl (k _ _ e n)) fun ⟨o, e⟩ => .inr ⟨o, k _ _ e n⟩
theorem Rd.there {u : HO} {a : Addr} (h : Rd H a u) : H a ≠ none := by
  rcases h with h | ⟨_, h⟩ <;> rw [h] <;> exact fun z => nomatch z
theorem TupAt.keep {a : Addr} {xs : List V} (m : ∀ a, M' a → M a ∨ H a = none) (k : ∀ a o, H a = some o → ¬ M a → H' a = some o) (h : TupAt g.K H M a xs) : TupAt g.K H' M' a xs :=
  h.imp (fun ⟨n, r⟩ => ⟨fun z => (m a z).elim n (fun y => by rw [r] at y; cases y), k _ _ r n⟩) id
theorem ScrAt.keep {a : Addr} {xs : List V} (m : ∀ a, M' a → M a ∨ H a = none) (k : ∀ a o, H a = some o → ¬ M a → H' a = some o) (h : ScrAt g.K H M a xs) : ScrAt g.K H' M' a xs :=
  h.imp (fun ⟨n, o, r⟩ => ⟨fun z => (m a z).elim n (fun y => by rw [r] at y; cases y), o, k _ _ r n⟩) id
theorem LstAt.keep {a : Addr} {xs : List V} (m : ∀ a, M' a → M a ∨ H a = none) (k : ∀ a o, H a = some o → ¬ M a → H' a = some o) (h : LstAt g.K H M a xs) : LstAt g.K H' M' a xs :=
  let ⟨n, r⟩ := h
  ⟨fun z => (m a z).elim n (fun y => by rw [r] at y; cases y), k _ _ r n⟩

mutual
theorem Sh.keep (m : ∀ a, M' a → M a ∨ H a = none) (k : ∀ a o, H a = some o → ¬ M a → H' a = some o) : ∀ (d : D) (v : V), Sh g H M d v → Sh g H' M' d v
  | .non, _, h => h
  | .bl _, _, h => h
  | .int _, _, h => h
  | .str _, _, h => h
  | .ty _, _, h => h
  | .cls _, _, h => h
  | .tup ds, _, h => by
    obtain ⟨a, vs, e, t, r⟩ := h
    exact ⟨a, vs, e, t.keep m k, ShL.keep m k ds vs r⟩
  | .lst ds, _, h => by
    obtain ⟨a, vs, e, t, r⟩ := h
    exact ⟨a, vs, e, t.keep m k, ShL.keep m k ds vs r⟩
  | .scr ds, _, h => by
    obtain ⟨a, vs, e, t, r⟩ := h
    exact ⟨a, vs, e, t.keep m k, ShL.keep m k ds vs r⟩
  | .ins C ns ds, _, h => by
    obtain ⟨a, dx, vs, e, n, q, l, r⟩ := h
    exact ⟨a, dx, vs, e, fun z => (m a z).elim n (fun y => by rw [q] at y; cases y), k _ _ q n, l, ShL.keep m k ds vs r⟩
  | .xr C ns ds, _, h => by
    obtain ⟨a, d, vs, x, e, n, q, l, r⟩ := h
    exact ⟨a, d, vs, x, e, fun z => (m d z).elim n (fun y => by rw [q] at y; cases y), k _ _ q n, l, ShL.keep m k ds vs r⟩
theorem ShL.keep (m : ∀ a, M' a → M a ∨ H a = none) (k : ∀ a o, H a = some o → ¬ M a → H' a = some o) : ∀ (ds : List D) (vs : List V), ShL g H M ds vs → ShL g H' M' ds vs
  | [], _, h => h
  | d :: ds, _, h => by
    obtain ⟨v, r, e, h1, h2⟩ := h
    exact ⟨v, r, e, Sh.keep m k d v h1, ShL.keep m k ds r h2⟩
end
/-- fewer are owned -/
theorem Sh.less (m : ∀ a, M' a → M a) {d : D} {v : V} (h : Sh g H M d v) : Sh g H M' d v := Sh.keep (fun a z => .inl (m a z)) (fun _ _ e _ => e) d v h
theorem ShL.less (m : ∀ a, M' a → M a) {ds : List D} {vs : List V} (h : ShL g H M ds vs) : ShL g H M' ds vs := ShL.keep (fun a z => .inl (m a z)) (fun _ _ e _ => e) ds vs h

theorem shL_iff : ∀ {ds : List D} {vs : List V}, ShL g H M ds vs ↔ Paired (Sh g H M) ds vs
  | [], vs => ⟨fun h => by cases h; exact .nil, fun h => by cases h; rfl⟩
  | d :: ds, vs => ⟨fun h => by
      obtain ⟨v, r, rfl, h1, h2⟩ := h
      exact .cons h1 (shL_iff.mp h2), fun h => by
      cases h with
      | cons h1 h2 => exact ⟨_, _, rfl, h1, shL_iff.mpr h2⟩⟩
end

/-! ### owned -/
mutual
/-- v stands for d; its lists down to depth n are owned: F -/
def Ow (g : G) (H : Hp) (M : Addr → Prop) : D → Nat → V → List Addr → Prop
  | .lst ds, n + 1, v, F => ∃ a vs J, v = .ref a ∧ F = a :: J ∧ H a = some (.lst vs) ∧ OwL g H M ds n vs J
  | .ins C ns ds, n + 1, v, F => ∃ a dx vs J, v = .ref a ∧ F = a :: J ∧ H a = some (.ins (He.ga g.K C) dx (ns.zip vs)) ∧ ns.length = vs.length ∧ OwL g H M ds n vs J
  | .lst ds, 0, v, F => F = [] ∧ Sh g H M (.lst ds) v
  | .ins C ns ds, 0, v, F => F = [] ∧ Sh g H M (.ins C ns ds) v
  | .non, _, v, F => F = [] ∧ v = .non
  | .bl b, _, v, F => F = [] ∧ v = .bl b
  | .int i, _, v, F => F = [] ∧ v = .int i
  | .str x, _, v, F => F = [] ∧ v = .str x
  | .ty x, _, v, F => F = [] ∧ v = .ty x
  | .cls C, _, v, F => F = [] ∧ v = .ref (He.ga g.K C)
  | .tup ds, _, v, F => F = [] ∧ Sh g H M (.tup ds) v
  | .scr ds, _, v, F => F = [] ∧ Sh g H M (.scr ds) v
  | .xr C ns ds, _, v, F => F = [] ∧ Sh g H M (.xr C ns ds) v
def OwL (g : G) (H : Hp) (M : Addr → Prop) : List D → Nat → List V → List Addr → Prop
  | [], _, vs, J => vs = [] ∧ J = []
  | d :: ds, n, vs, J => ∃ v r J1 J2, vs = v :: r ∧ J = J1 ++ J2 ∧ Ow g H M d n v J1 ∧ OwL g H M ds n r J2
end

section
variable {g : G} {H H' : Hp} {M M' : Addr → Prop}
theorem ow_zero {d : D} {v : V} {F : List Addr} : Ow g H M d 0 v F ↔ F = [] ∧ Sh g H M d v := by
  cases d <;> (unfold Ow; try rfl)
theorem ow_sh {d : D} {v : V} (h : Sh g H M d v) : Ow g H M d 0 v [] := ow_zero.mpr ⟨rfl, h⟩

theorem owL_zero : ∀ {ds : List D} {vs : List V} {F : List Addr}, OwL g H M ds 0 vs F ↔ F = [] ∧ ShL g H M ds vs
  | [], vs, F => by
    unfold OwL ShL
    exact ⟨fun ⟨a, b⟩ => ⟨b, a⟩, fun ⟨a, b⟩ => ⟨b, a⟩⟩
  | d :: ds, vs, F => by
    unfold OwL ShL
    constructor
    · rintro ⟨v, r, J1, J2, e, f, h1, h2⟩
      obtain ⟨e1, h3⟩ := ow_zero.mp h1
      obtain ⟨e2, h4⟩ := owL_zero.mp h2
      exact ⟨by rw [f, e1, e2]; rfl, v, r, e, h3, h4⟩
    · rintro ⟨rfl, v, r, e, h1, h2⟩
      exact ⟨v, r, [], [], e, rfl, ow_zero.mpr ⟨rfl, h1⟩, owL_zero.mpr ⟨rfl, h2⟩⟩

mutual
theorem Ow.keep (m : ∀ a, M' a → M a ∨ H a = none) (k : ∀ a o, H a = some o → ¬ M a → H' a = some o) : ∀ (d : D) (n : Nat) (v : V) (F : List Addr), (∀ a ∈ F, ∀ o, H a = some o → H' a = some o) → Ow g H M d n v F → Ow g H' M' d n v F
  | .lst ds, n + 1, _, _, f, h => by
    obtain ⟨a, vs, J, e, rfl, q, r⟩ := h
    exact ⟨a, vs, J, e, rfl, f a List.mem_cons_self _ q, OwL.keep m k ds n vs J (fun b hb => f b (List.mem_cons_of_mem _ hb)) r⟩
  | .ins C ns ds, n + 1, _, _, f, h => by
    obtain ⟨a, dx, vs, J, e, rfl, q, l, r⟩ := h
    exact ⟨a, dx, vs, J, e, rfl, f a List.mem_cons_self _ q, l, OwL.keep m k ds n vs J (fun b hb => f b (List.mem_cons_of_mem _ hb)) r⟩
  | .lst ds, 0, v, _, _, h => ⟨h.1, Sh.keep m k (.lst ds) v h.2⟩
  | .ins C ns ds, 0, v, _, _, h => ⟨h.1, Sh.keep m k (.ins C ns ds) v h.2⟩
  | .non, n, _, _, _, h => by cases n <;> exact h
  | .bl _, n, _, _, _, h => by cases n <;> exact h
  | .int _, n, _, _, _, h => by cases n <;> exact h
  | .str _, n, _, _, _, h => by cases n <;> exact h
  | .ty _, n, _, _, _, h => by cases n <;> exact h
  | .cls _, n, _, _, _, h => by cases n <;> exact h
  | .tup ds, n, v, F, _, h => by
    have h' : F = [] ∧ Sh g H M (.tup ds) v := by cases n <;> exact h
    have r : F = [] ∧ Sh g H' M' (.tup ds) v := ⟨h'.1, Sh.keep m k (.tup ds) v h'.2⟩
    cases n <;> exact r
  | .scr ds, n, v, F, _, h => by
    have h' : F = [] ∧ Sh g H M (.scr ds) v := by cases n <;> exact h
    have r : F = [] ∧ Sh g H' M' (.scr ds) v := ⟨h'.1, Sh.keep m k (.scr ds) v h'.2⟩
    cases n <;> exact r
  | .xr C ns ds, n, v, F, _, h => by
    have h' : F = [] ∧ Sh g H M (.xr C ns ds) v := by cases n <;> exact h
    have r : F = [] ∧ Sh g H' M' (.xr C ns ds) v := ⟨h'.1, Sh.keep m k (.xr C ns ds) v h'.2⟩
    cases n <;> exact r
theorem OwL.keep (m : ∀ a, M' a → M a ∨ H a = none) (k : ∀ a o, H a = some o → ¬ M a → H' a = some o) : ∀ (ds : List D) (n : Nat) (vs : List V) (F : List Addr), (∀ a ∈ F, ∀ o, H a = some o → H' a = some o) → OwL g H M ds n vs F → OwL g H' M' ds n vs F
  | [], _, _, _, _, h => h
  | d :: ds, n, _, _, f, h => by
    obtain ⟨v, r, J1, J2, e, rfl, h1, h2⟩ := h
    exact ⟨v, r, J1, J2, e, rfl, Ow.keep m k d n v J1 (fun b hb => f b (List.mem_append_left _ hb)) h1, OwL.keep m k ds n r J2 (fun b hb => f b (List.mem_append_right _ hb)) h2⟩
end

mutual
theorem Ow.tracked : ∀ (d : D) (n : Nat) (v : V) (F : List Addr), Ow g H M d n v F → ∀ a ∈ F, H a ≠ none
  | .lst ds, n + 1, _, _, h => by
    obtain ⟨a, vs, J, e, rfl, q, r⟩ := h
    intro b hb
    rcases List.mem_cons.mp hb with rfl | hb
    · rw [q]; exact fun z => nomatch z
    · exact OwL.tracked ds n vs J r b hb
  | .ins C ns ds, n + 1, _, _, h => by
    obtain ⟨a, dx, vs, J, e, rfl, q, l, r⟩ := h
    intro b hb
    rcases List.mem_cons.mp hb with rfl | hb
    · rw [q]; exact fun z => nomatch z
    · exact OwL.tracked ds n vs J r b hb
  | .lst ds, 0, v, _, h => by rw [h.1]; exact fun _ hb => nomatch hb
  | .ins C ns ds, 0, v, _, h => by rw [h.1]; exact fun _ hb => nomatch hb
  | .non, n, _, F, h => by have e : F = [] := by cases n <;> exact h.1
                           rw [e]; exact fun _ hb => nomatch hb
  | .bl _, n, _, F, h => by have e : F = [] := by cases n <;> exact h.1
                            rw [e]; exact fun _ hb => nomatch hb
  | .int _, n, _, F, h => by have e : F = [] := by cases n <;> exact h.1
                             rw [e]; exact fun _ hb => nomatch hb
  | .str _, n, _, F, h => by have e : F = [] := by cases n <;> exact h.1
                             rw [e]; exact fun _ hb => nomatch hb
  | .ty _, n, _, F, h => by have e : F = [] := by cases n <;> exact h.1
                            rw [e]; exact fun _ hb => nomatch hb
  | .cls _, n, _, F, h => by have e : F = [] := by cases n <;> exact h.1
                             rw [e]; exact fun _ hb => nomatch hb
  | .tup _, n, _, F, h => by have e : F = [] := by cases n <;> exact h.1
                             rw [e]; exact fun _ hb => nomatch hb
  | .scr _, n, _, F, h => by have e : F = [] := by cases n <;> exact h.1
                             rw [e]; exact fun _ hb => nomatch hb
  | .xr _ _ _, n, _, F, h => by have e : F = [] := by cases n <;> exact h.1
                                rw [e]; exact fun _ hb => nomatch hb
theorem OwL.tracked : ∀ (ds : List D) (n : Nat) (vs : List V) (F : List Addr), OwL g H M ds n vs F → ∀ a ∈ F, H a ≠ none
  | [], _, _, _, h => by rw [h.2]; exact fun _ hb => nomatch hb
  | d :: ds, n, _, _, h => by
    obtain ⟨v, r, J1, J2, e, rfl, h1, h2⟩ := h
    intro b hb
    rcases List.mem_append.mp hb with hb | hb
    · exact Ow.tracked d n v J1 h1 b hb
    · exact OwL.tracked ds n r J2 h2 b hb
end

mutual
/-- owned less deep: some of F is let go -/
theorem Ow.down : ∀ (d : D) (n m : Nat) (v : V) (F : List Addr), m ≤ n → Ow g H M d n v F → ∃ F', F'.Sublist F ∧ ∀ M' : Addr → Prop, (∀ a, M' a → M a) → (∀ a ∈ F, M' a → a ∈ F') → (F.Nodup) → Ow g H M' d m v F'
  | .lst ds, n + 1, 0, v, _, _, h => by
    obtain ⟨a, vs, J, e, rfl, q, r⟩ := h
    obtain ⟨J', _, R⟩ := OwL.down ds n 0 vs J (Nat.zero_le _) r
    refine ⟨[], List.nil_sublist _, fun M' hm hf nd => ⟨rfl, a, vs, e, ⟨fun z => (nomatch hf a List.mem_cons_self z), q⟩, ?_⟩⟩
    exact (owL_zero.mp (R M' hm (fun b hb z => nomatch hf b (List.mem_cons_of_mem _ hb) z) (List.nodup_cons.mp nd).2)).2
  | .lst ds, n + 1, m + 1, v, _, hl, h => by
    obtain ⟨a, vs, J, e, rfl, q, r⟩ := h
    obtain ⟨J', sj, R⟩ := OwL.down ds n m vs J (Nat.le_of_succ_le_succ hl) r
    refine ⟨a :: J', sj.cons₂ a, fun M' hm hf nd => ⟨a, vs, J', e, rfl, q, R M' hm (fun b hb z => ?_) (List.nodup_cons.mp nd).2⟩⟩
    rcases List.mem_cons.mp (hf b (List.mem_cons_of_mem _ hb) z) with rfl | y
    · exact absurd hb (List.nodup_cons.mp nd).1
    · exact y
  | .ins C ns ds, n + 1, 0, v, _, _, h => by
    obtain ⟨a, dx, vs, J, e, rfl, q, l, r⟩ := h
    obtain ⟨J', _, R⟩ := OwL.down ds n 0 vs J (Nat.zero_le _) r
    refine ⟨[], List.nil_sublist _, fun M' hm hf nd => ⟨rfl, a, dx, vs, e, fun z => (nomatch hf a List.mem_cons_self z), q, l, ?_⟩⟩
    exact (owL_zero.mp (R M' hm (fun b hb z => nomatch hf b (List.mem_cons_of_mem _ hb) z) (List.nodup_cons.mp nd).2)).2
  | .ins C ns ds, n + 1, m + 1, v, _, hl, h => by
    obtain ⟨a, dx, vs, J, e, rfl, q, l, r⟩ := h
    obtain ⟨J', sj, R⟩ := OwL.down ds n m vs J (Nat.le_of_succ_le_succ hl) r
    refine ⟨a :: J', sj.cons₂ a, fun M' hm hf nd => ⟨a, dx, vs, J', e, rfl, q, l, R M' hm (fun b hb z => ?_) (List.nodup_cons.mp nd).2⟩⟩
    rcases List.mem_cons.mp (hf b (List.mem_cons_of_mem _ hb) z) with rfl | y
    · exact absurd hb (List.nodup_cons.mp nd).1
    · exact y
  | .lst ds, 0, m, v, F, hl, h => by
    obtain rfl := Nat.le_zero.mp hl
    exact ⟨[], List.nil_sublist _, fun M' hm _ _ => ow_zero.mpr ⟨rfl, (ow_zero.mp h).2.less hm⟩⟩
  | .ins C ns ds, 0, m, v, F, hl, h => by
    obtain rfl := Nat.le_zero.mp hl
    exact ⟨[], List.nil_sublist _, fun M' hm _ _ => ow_zero.mpr ⟨rfl, (ow_zero.mp h).2.less hm⟩⟩
  | .non, n, m, v, F, _, h => by
    have h' : F = [] ∧ v = .non := by cases n <;> exact h
    exact ⟨[], List.nil_sublist _, fun _ _ _ _ => by cases m <;> exact ⟨rfl, h'.2⟩⟩
  | .bl b, n, m, v, F, _, h => by
    have h' : F = [] ∧ v = .bl b := by cases n <;> exact h
    exact ⟨[], List.nil_sublist _, fun _ _ _ _ => by cases m <;> exact ⟨rfl, h'.2⟩⟩
  | .int b, n, m, v, F, _, h => by
    have h' : F = [] ∧ v = .int b := by cases n <;> exact h
    exact ⟨[], List.nil_sublist _, fun _ _ _ _ => by cases m <;> exact ⟨rfl, h'.2⟩⟩
  | .str b, n, m, v, F, _, h => by
    have h' : F = [] ∧ v = .str b := by cases n <;> exact h
    exact ⟨[], List.nil_sublist _, fun _ _ _ _ => by cases m <;> exact ⟨rfl, h'.2⟩⟩
  | .ty b, n, m, v, F, _, h => by
    have h' : F = [] ∧ v = .ty b := by cases n <;> exact h
    exact ⟨[], List.nil_sublist _, fun _ _ _ _ => by cases m <;> exact ⟨rfl, h'.2⟩⟩
  | .cls b, n, m, v, F, _, h => by
    have h' : F = [] ∧ v = .ref (He.ga g.K b) := by cases n <;> exact h
    exact ⟨[], List.nil_sublist _, fun _ _ _ _ => by cases m <;> exact ⟨rfl, h'.2⟩⟩
  | .tup ds, n, m, v, F, _, h => by
    have h' : F = [] ∧ Sh g H M (.tup ds) v := by cases n <;> exact h
    exact ⟨[], List.nil_sublist _, fun _ hm _ _ => by cases m <;> exact ⟨rfl, h'.2.less hm⟩⟩
  | .scr ds, n, m, v, F, _, h => by
    have h' : F = [] ∧ Sh g H M (.scr ds) v := by cases n <;> exact h
    exact ⟨[], List.nil_sublist _, fun _ hm _ _ => by cases m <;> exact ⟨rfl, h'.2.less hm⟩⟩
  | .xr C ns ds, n, m, v, F, _, h => by
    have h' : F = [] ∧ Sh g H M (.xr C ns ds) v := by cases n <;> exact h
    exact ⟨[], List.nil_sublist _, fun _ hm _ _ => by cases m <;> exact ⟨rfl, h'.2.less hm⟩⟩
theorem OwL.down : ∀ (ds : List D) (n m : Nat) (vs : List V) (F : List Addr), m ≤ n → OwL g H M ds n vs F → ∃ F', F'.Sublist F ∧ ∀ M' : Addr → Prop, (∀ a, M' a → M a) → (∀ a ∈ F, M' a → a ∈ F') → (F.Nodup) → OwL g H M' ds m vs F'
  | [], n, m, vs, F, _, h => ⟨[], List.nil_sublist _, fun _ _ _ _ => ⟨h.1, rfl⟩⟩
  | d :: ds, n, m, _, _, hl, h => by
    obtain ⟨v, r, J1, J2, e, rfl, h1, h2⟩ := h
    obtain ⟨K1, s1, R1⟩ := Ow.down d n m v J1 hl h1
    obtain ⟨K2, s2, R2⟩ := OwL.down ds n m r J2 hl h2
    refine ⟨K1 ++ K2, s1.append s2, fun M' hm hf nd => ?_⟩
    obtain ⟨nd1, nd2, nd3⟩ := List.nodup_append.mp nd
    refine ⟨v, r, K1, K2, e, rfl, R1 M' hm (fun b hb z => ?_) nd1, R2 M' hm (fun b hb z => ?_) nd2⟩
    · rcases List.mem_append.mp (hf b (List.mem_append_left _ hb) z) with y | y
      · exact y
      · exact absurd rfl (nd3 b hb b (s2.subset y))
    · rcases List.mem_append.mp (hf b (List.mem_append_right _ hb) z) with y | y
      · exact absurd rfl (nd3 b (s1.subset y) b hb)
      · exact y
end
end
end Z

set_option Elab.async false
set_option linter.all false
set_option maxRecDepth 100000
set_option maxHeartbeats 4000000
/-! Dp2: environments, states, what a step may change. -/
namespace Z
open PySem PySem.Spec PyProof.Rows L2
abbrev St := List (Option V)
abbrev Slot := Option (Nat × D)
abbrev Env := List Slot

def EnvR (g : G) (H : Hp) (M : Addr → Prop) : Env → List (Option V) → List Addr → Prop
  | [], σ, F => σ = [] ∧ F = []
  | none :: ρ, σ, F => ∃ o r, σ = o :: r ∧ EnvR g H M ρ r F
  | some (n, d) :: ρ, σ, F => ∃ v r F1 F2, σ = some v :: r ∧ F = F1 ++ F2 ∧ Ow g H M d n v F1 ∧ EnvR g H M ρ r F2

section
variable {g : G} {H H' : Hp} {M M' : Addr → Prop}
theorem EnvR.len : ∀ {ρ : Env} {σ : List (Option V)} {F : List Addr}, EnvR g H M ρ σ F → σ.length = ρ.length
  | [], _, _, h => by rw [h.1]; rfl
  | none :: ρ, _, _, h => by
    obtain ⟨o, r, rfl, h⟩ := h
    exact congrArg (· + 1) (EnvR.len h)
  | some (n, d) :: ρ, _, _, h => by
    obtain ⟨v, r, F1, F2, rfl, _, _, h⟩ := h
    exact congrArg (· + 1) (EnvR.len h)
theorem EnvR.keep (m : ∀ a, M' a → M a ∨ H a = none) (k : ∀ a o, H a = some o → ¬ M a → H' a = some o) : ∀ (ρ : Env) (σ : List (Option V)) (F : List Addr), (∀ a ∈ F, ∀ o, H a = some o → H' a = some o) → EnvR g H M ρ σ F → EnvR g H' M' ρ σ F
  | [], _, _, _, h => h
  | none :: ρ, _, _, f, h => by
    obtain ⟨o, r, e, h⟩ := h
    exact ⟨o, r, e, EnvR.keep m k ρ r _ f h⟩
  | some (n, d) :: ρ, _, _, f, h => by
    obtain ⟨v, r, F1, F2, e, rfl, h1, h2⟩ := h
    exact ⟨v, r, F1, F2, e, rfl, Ow.keep m k d n v F1 (fun b hb => f b (List.mem_append_left _ hb)) h1, EnvR.keep m k ρ r F2 (fun b hb => f b (List.mem_append_right _ hb)) h2⟩
theorem EnvR.less (m : ∀ a, M' a → M a) {ρ : Env} {σ : List (Option V)} {F : List Addr} (h : EnvR g H M ρ σ F) : EnvR g H M' ρ σ F :=
  EnvR.keep (fun a z => .inl (m a z)) (fun _ _ e _ => e) ρ σ F (fun _ _ _ e => e) h
theorem EnvR.tracked : ∀ {ρ : Env} {σ : List (Option V)} {F : List Addr}, EnvR g H M ρ σ F → ∀ a ∈ F, H a ≠ none
  | [], _, _, h => by rw [h.2]; exact fun _ hb => nomatch hb
  | none :: ρ, _, _, h => by
    obtain ⟨o, r, rfl, h⟩ := h
    exact EnvR.tracked h
  | some (n, d) :: ρ, _, _, h => by
    obtain ⟨v, r, F1, F2, rfl, rfl, h1, h2⟩ := h
    intro b hb
    rcases List.mem_append.mp hb with hb | hb
    · exact Ow.tracked d n v F1 h1 b hb
    · exact EnvR.tracked h2 b hb
/-- two parts -/
theorem EnvR.app : ∀ {ρ ρ' : Env} {σ σ' : List (Option V)} {F : List Addr}, σ.length = ρ.length → EnvR g H M (ρ ++ ρ') (σ ++ σ') F → ∃ F1 F2, F = F1 ++ F2 ∧ EnvR g H M ρ σ F1 ∧ EnvR g H M ρ' σ' F2
  | [], ρ', σ, σ', F, l, h => by
    have e : σ = [] := List.eq_nil_of_length_eq_zero l
    subst e
    exact ⟨[], F, rfl, ⟨rfl, rfl⟩, h⟩
  | none :: ρ, ρ', [], σ', F, l, h => by cases l
  | none :: ρ, ρ', x :: σ, σ', F, l, h => by
    obtain ⟨o, r, e, h⟩ := h
    injection e with e1 e2
    subst e1 e2
    obtain ⟨F1, F2, e, a, b⟩ := EnvR.app (Nat.succ.inj l) h
    exact ⟨F1, F2, e, ⟨_, _, rfl, a⟩, b⟩
  | some (n, d) :: ρ, ρ', [], σ', F, l, h => by cases l
  | some (n, d) :: ρ, ρ', x :: σ, σ', F, l, h => by
    obtain ⟨v, r, G1, G2, e, rfl, h1, h⟩ := h
    injection e with e1 e2
    subst e1 e2
    obtain ⟨F1, F2, rfl, a, b⟩ := EnvR.app (Nat.succ.inj l) h
    exact ⟨G1 ++ F1, F2, by rw [List.append_assoc], ⟨_, _, _, _, rfl, rfl, h1, a⟩, b⟩
theorem EnvR.append : ∀ {ρ ρ' : Env} {σ σ' : List (Option V)} {F F' : List Addr}, EnvR g H M ρ σ F → EnvR g H M ρ' σ' F' → EnvR g H M (ρ ++ ρ') (σ ++ σ') (F ++ F')
  | [], _, _, _, _, _, ⟨rfl, rfl⟩, b => b
  | none :: ρ, _, _, _, _, _, ⟨o, r, rfl, a⟩, b => ⟨_, _, rfl, EnvR.append a b⟩
  | some (n, d) :: ρ, _, _, _, _, _, ⟨v, r, F1, F2, rfl, rfl, h1, a⟩, b => ⟨_, _, _, _, rfl, List.append_assoc .., h1, EnvR.append a b⟩
/-- the i-th slot taken out -/
theorem EnvR.take : ∀ {ρ : Env} {i : Nat} {n : Nat} {d : D} {σ : List (Option V)} {F : List Addr}, EnvR g H M ρ σ F → ρ[i]? = some (some (n, d)) →
    ∃ v Fi Fo, σ[i]? = some (some v) ∧ (Fi ++ Fo).Perm F ∧ Ow g H M d n v Fi ∧ EnvR g H M (ρ.set i none) σ Fo
  | [], i, _, _, _, _, _, e => by simp at e
  | none :: ρ, 0, _, _, _, _, _, e => by simp at e
  | none :: ρ, i + 1, n, d, _, _, ⟨o, r, rfl, h⟩, e => by
    obtain ⟨v, Fi, Fo, a, b, c, q⟩ := EnvR.take h (by simpa using e)
    exact ⟨v, Fi, Fo, by simpa using a, b, c, ⟨_, _, rfl, q⟩⟩
  | some (m, c) :: ρ, 0, n, d, _, _, ⟨v, r, F1, F2, rfl, rfl, h1, h⟩, e => by
    have e' : (m, c) = (n, d) := by simpa using e
    injection e' with e1 e2
    subst e1 e2
    exact ⟨v, F1, F2, rfl, .refl _, h1, ⟨_, _, rfl, h⟩⟩
  | some (m, c) :: ρ, i + 1, n, d, _, _, ⟨v, r, F1, F2, rfl, rfl, h1, h⟩, e => by
    obtain ⟨u, Fi, Fo, a, b, c', q⟩ := EnvR.take h (by simpa using e)
    refine ⟨u, Fi, F1 ++ Fo, by simpa using a, ?_, c', ⟨_, _, _, _, rfl, rfl, h1, q⟩⟩
    rw [← List.append_assoc]
    refine (List.perm_append_comm.append_right Fo).trans ?_
    rw [List.append_assoc]
    exact b.append_left F1
/-- a slot that holds nothing is filled -/
theorem EnvR.put : ∀ {ρ : Env} {i : Nat} {n : Nat} {d : D} {v : V} {σ : List (Option V)} {Fi Fo : List Addr}, EnvR g H M ρ σ Fo → ρ[i]? = some none → Ow g H M d n v Fi →
    ∃ F, (Fi ++ Fo).Perm F ∧ EnvR g H M (ρ.set i (some (n, d))) (σ.set i (some v)) F
  | [], i, _, _, _, _, _, _, _, e, _ => by simp at e
  | none :: ρ, 0, n, d, v, _, Fi, Fo, ⟨o, r, rfl, h⟩, _, w => ⟨Fi ++ Fo, .refl _, ⟨v, r, Fi, Fo, rfl, rfl, w, h⟩⟩
  | none :: ρ, i + 1, n, d, v, _, Fi, Fo, ⟨o, r, rfl, h⟩, e, w => by
    obtain ⟨F, p, q⟩ := EnvR.put h (by simpa using e) w
    exact ⟨F, p, ⟨_, _, rfl, q⟩⟩
  | some (m, c) :: ρ, 0, _, _, _, _, _, _, _, e, _ => by simp at e
  | some (m, c) :: ρ, i + 1, n, d, v, _, Fi, _, ⟨u, r, F1, F2, rfl, rfl, h1, h⟩, e, w => by
    obtain ⟨F, p, q⟩ := EnvR.put h (by simpa using e) w
    refine ⟨F1 ++ F, ?_, ⟨_, _, _, _, rfl, rfl, h1, q⟩⟩
    rw [← List.append_assoc]
    refine (List.perm_append_comm.append_right F2).trans ?_
    rw [List.append_assoc]
    exact p.append_left F1
/-- where the slot is unknown the name may hold anything -/
theorem EnvR.setσ : ∀ {ρ : Env} {i : Nat} {o : Option V} {σ : List (Option V)} {F : List Addr}, EnvR g H M ρ σ F → ρ[i]? = some none → EnvR g H M ρ (σ.set i o) F
  | [], i, _, _, _, _, e => by simp at e
  | none :: ρ, 0, _, _, _, ⟨o, r, rfl, h⟩, _ => ⟨_, _, rfl, h⟩
  | none :: ρ, i + 1, _, _, _, ⟨o, r, rfl, h⟩, e => ⟨_, _, rfl, EnvR.setσ h (by simpa using e)⟩
  | some (m, c) :: ρ, 0, _, _, _, _, e => by simp at e
  | some (m, c) :: ρ, i + 1, _, _, _, ⟨u, r, F1, F2, rfl, rfl, h1, h⟩, e => ⟨_, _, _, _, rfl, rfl, h1, EnvR.setσ h (by simpa using e)⟩
/-- a slot forgotten -/
theorem EnvR.drop {ρ : Env} {i : Nat} {σ : List (Option V)} {F : List Addr} (h : EnvR g H M ρ σ F) : ∃ Fi Fo, (Fi ++ Fo).Perm F ∧ EnvR g H M (ρ.set i none) σ Fo := by
  cases e : ρ[i]? with
  | none => exact ⟨[], F, .refl _, by rw [List.set_eq_of_length_le (List.getElem?_eq_none_iff.mp e)]; exact h⟩
  | some s =>
    cases s with
    | none =>
      refine ⟨[], F, .refl _, ?_⟩
      have : ρ.set i none = ρ := by
        apply List.ext_getElem?
        intro j
        by_cases hj : i = j
        · subst hj
          rw [List.getElem?_set_self (List.getElem?_eq_some_iff.mp e).1, e]
        · rw [List.getElem?_set_ne hj]
      rw [this]
      exact h
    | some p =>
      obtain ⟨n, d⟩ := p
      obtain ⟨v, Fi, Fo, a, b, c, q⟩ := EnvR.take h e
      exact ⟨Fi, Fo, b, q⟩
end

/-- a state: M0 is owned by others -/
structure S (g : G) (M0 : Addr → Prop) (H : Hp) (σ : List (Option V)) (ρ : Env) (F : List Addr) : Prop where
  env : EnvR g H (fun a => M0 a ∨ a ∈ F) ρ σ F
  nd : F.Nodup
  dj : ∀ a ∈ F, ¬ M0 a
  tk : ∀ a, M0 a → H a ≠ none
/-- what a step may change: what is in F; what is new -/
structure Tr (H : Hp) (F : List Addr) (H' : Hp) (F' : List Addr) : Prop where
  keep : ∀ a o, H a = some o → a ∉ F → H' a = some o
  new : ∀ a ∈ F', a ∈ F ∨ H a = none
theorem Tr.refl {H : Hp} {F : List Addr} : Tr H F H F := ⟨fun _ _ e _ => e, fun _ h => .inl h⟩
theorem Tr.sub {H : Hp} {F F' : List Addr} (h : ∀ a ∈ F', a ∈ F) : Tr H F H F' := ⟨fun _ _ e _ => e, fun a z => .inl (h a z)⟩
theorem Tr.trans {H H1 H2 : Hp} {F F1 F2 : List Addr} (a : Tr H F H1 F1) (b : Tr H1 F1 H2 F2) : Tr H F H2 F2 where
  keep := fun x o e n => b.keep x o (a.keep x o e n) fun z => (a.new x z).elim n fun y => by rw [e] at y; cases y
  new := fun x z => by
    rcases b.new x z with y | y
    · exact a.new x y
    · cases e : H x with
      | none => exact .inr rfl
      | some o =>
        refine .inl ?_
        by_cases hx : x ∈ F
        · exact hx
        · rw [a.keep x o e hx] at y; cases y
section
variable {g : G} {M0 : Addr → Prop} {H H' : Hp} {σ : List (Option V)} {ρ : Env} {F F' : List Addr}
theorem S.len (s : S g M0 H σ ρ F) : σ.length = ρ.length := s.env.len
theorem S.tracked (s : S g M0 H σ ρ F) : ∀ a ∈ F, H a ≠ none := s.env.tracked
theorem S.perm (s : S g M0 H σ ρ F) (p : F.Perm F') (e : EnvR g H (fun a => M0 a ∨ a ∈ F) ρ σ F') : S g M0 H σ ρ F' :=
  ⟨e.less fun a z => z.imp id fun y => p.mem_iff.mpr y, p.nodup_iff.mp s.nd, fun a ha => s.dj a (p.mem_iff.mpr ha), s.tk⟩
/-- from parts: the owned ones of E, told as a list of them -/
theorem S.mk' {M : Addr → Prop} (e : EnvR g H M ρ σ F) (m : ∀ a, (M0 a ∨ a ∈ F) → M a) (nd : F.Nodup) (dj : ∀ a ∈ F, ¬ M0 a) (tk : ∀ a, M0 a → H a ≠ none) : S g M0 H σ ρ F := ⟨e.less m, nd, dj, tk⟩
/-- temporaries behind: split -/
theorem S.split {σ2 : List (Option V)} {ρ2 : Env} (s : S g M0 H (σ ++ σ2) (ρ ++ ρ2) F) (l : σ.length = ρ.length) : ∃ F1 F2, F = F1 ++ F2 ∧ S g (fun a => M0 a ∨ a ∈ F2) H σ ρ F1 ∧ EnvR g H (fun a => (M0 a ∨ a ∈ F2) ∨ a ∈ F1) ρ2 σ2 F2 := by
  obtain ⟨F1, F2, rfl, h1, h2⟩ := s.env.app l
  obtain ⟨n1, n2, n3⟩ := List.nodup_append.mp s.nd
  have hm : ∀ a, (M0 a ∨ a ∈ F2) ∨ a ∈ F1 → M0 a ∨ a ∈ F1 ++ F2 := fun a z => z.elim (fun z => z.imp id (List.mem_append_right _)) fun z => .inr (List.mem_append_left _ z)
  refine ⟨F1, F2, rfl, ⟨h1.less hm, n1, fun a ha z => z.elim (s.dj a (List.mem_append_left _ ha)) fun z => n3 a ha a z rfl, fun a z => z.elim (s.tk a) fun z => h2.tracked a z⟩, h2.less hm⟩
/-- and joined again, behind a step of the first part -/
theorem S.join {σ2 : List (Option V)} {ρ' ρ2 : Env} {σ' : List (Option V)} {F1 F1' F2 : List Addr} (s : S g (fun a => M0 a ∨ a ∈ F2) H' σ' ρ' F1') (h2 : EnvR g H (fun a => (M0 a ∨ a ∈ F2) ∨ a ∈ F1) ρ2 σ2 F2) (nd2 : F2.Nodup) (dj2 : ∀ a ∈ F2, ¬ M0 a) (tk0 : ∀ a, M0 a → H a ≠ none) (n12 : ∀ a ∈ F2, a ∉ F1) (t : Tr H F1 H' F1') :
    S g M0 H' (σ' ++ σ2) (ρ' ++ ρ2) (F1' ++ F2) := by
  have k2 : EnvR g H' (fun a => (M0 a ∨ a ∈ F2) ∨ a ∈ F1') ρ2 σ2 F2 := EnvR.keep (M := fun a => (M0 a ∨ a ∈ F2) ∨ a ∈ F1) (fun a z => z.elim (fun z => .inl (.inl z)) fun z => (t.new a z).imp .inr id) (fun a o e n => t.keep a o e fun z => n (.inr z)) ρ2 σ2 F2
    (fun a ha o e => t.keep a o e (n12 a ha)) h2
  have hm : ∀ a, M0 a ∨ a ∈ F1' ++ F2 → (M0 a ∨ a ∈ F2) ∨ a ∈ F1' := fun a z => z.elim (fun z => .inl (.inl z)) fun z => (List.mem_append.mp z).elim .inr fun z => .inl (.inr z)
  refine ⟨(s.env.append k2).less hm, List.nodup_append.mpr ⟨s.nd, nd2, fun a ha b hb e => s.dj a ha (.inr (e ▸ hb))⟩, fun a ha => ?_, fun a z => s.tk a (.inl z)⟩
  rcases List.mem_append.mp ha with y | y
  · exact fun z => s.dj a y (.inl z)
  · exact dj2 a y
end
end Z

set_option Elab.async false
set_option linter.all false
set_option maxRecDepth 100000
set_option maxHeartbeats 4000000
/-! Dp3: operands, their states, the judgement of expressions. -/
namespace Z
open PySem PySem.Spec PyProof.Rows L2
abbrev Exn := Str × List Str × List D
abbrev ED := Exn → Env → Prop
/-- an operand: the name in slot i, by reference; a temporary value -/
inductive Opd where
  | rf (i : Nat)
  | tm (n : Nat) (d : D)
abbrev WO := Env → (Opd → Env → Prop) → ED → Prop
abbrev WOs := Env → (List Opd → Env → Prop) → ED → Prop
abbrev WT := Env → (Bool → Env → Prop) → ED → Prop

/-- an exception: its class, its dict's fields -/
def XR (g : G) (H : Hp) (M : Addr → Prop) (x : Exn) (cls : Value) (dd : Option Addr) : Prop :=
  cls = .ref (He.ga g.K x.1) ∧ ((x.2.1 = [] ∧ x.2.2 = [] ∧ dd = none) ∨ ∃ d0 vs, dd = some d0 ∧ ¬ M d0 ∧ H d0 = some (.xd (x.2.1.zip vs)) ∧ x.2.1.length = vs.length ∧ ShL g H M x.2.2 vs)
theorem XR.less {g : G} {H : Hp} {M M' : Addr → Prop} {x : Exn} {cls : Value} {dd : Option Addr} (m : ∀ a, M' a → M a) (h : XR g H M x cls dd) : XR g H M' x cls dd :=
  ⟨h.1, h.2.imp id fun ⟨d0, vs, e, n, q, l, r⟩ => ⟨d0, vs, e, fun z => n (m _ z), q, l, r.less m⟩⟩
/-- wherever Ed holds of an exception, W is met -/
def Lk (g : G) (W : WX) (M0 : Addr → Prop) (H : Hp) (σ : St) (F : List Addr) (Ed : ED) : Prop :=
  ∀ x ρ' H' F' cls dd, Ed x ρ' → S g M0 H' σ ρ' F' → Tr H F H' F' → XR g H' (fun a => M0 a ∨ a ∈ F') x cls dd → W cls dd σ H'
section
variable {g : G} {W : WX} {M0 M0' : Addr → Prop} {H H' : Hp} {σ : St} {ρ : Env} {F F' : List Addr} {Ed : ED}
theorem Lk.step (h : Lk g W M0 H σ F Ed) (t : Tr H F H' F') : Lk g W M0 H' σ F' Ed := fun x ρ' H2 F2 cls dd e s t2 r => h x ρ' H2 F2 cls dd e s (t.trans t2) r
theorem S.less0 (m : ∀ a, M0' a → M0 a) (s : S g M0 H σ ρ F) : S g M0' H σ ρ F := ⟨s.env.less fun a z => z.imp (m a) id, s.nd, fun a ha z => s.dj a ha (m a z), fun a z => s.tk a (m a z)⟩
theorem Lk.more (m : ∀ a, M0 a → M0' a) (h : Lk g W M0 H σ F Ed) : Lk g W M0' H σ F Ed := fun x ρ' H2 F2 cls dd e s t r => h x ρ' H2 F2 cls dd e (s.less0 m) t (r.less fun a z => z.imp (m a) id)
theorem Tr.widen {F2 : List Addr} (t : Tr H F H' F') : Tr H (F ++ F2) H' (F' ++ F2) :=
  ⟨fun a o e n => t.keep a o e fun z => n (List.mem_append_left _ z), fun a z => (List.mem_append.mp z).elim (fun y => (t.new a y).imp (List.mem_append_left _) id) fun y => .inl (List.mem_append_right _ y)⟩
theorem Tr.of_perm {F2 : List Addr} (p : F2.Perm F) : Tr H F H F2 := Tr.sub fun a z => p.mem_iff.mp z
end

/-- operands vs, the temporaries among them T, told by TD -/
def OpsAt (σ : St) : List Opd → List V → St → Env → Prop
  | [], vs, T, TD => vs = [] ∧ T = [] ∧ TD = []
  | .rf i :: os, vs, T, TD => ∃ v r, vs = v :: r ∧ σ[i]? = some (some v) ∧ OpsAt σ os r T TD
  | .tm n d :: os, vs, T, TD => ∃ v r T' TD', vs = v :: r ∧ T = some v :: T' ∧ TD = some (n, d) :: TD' ∧ OpsAt σ os r T' TD'
theorem OpsAt.len {σ : St} : ∀ {os : List Opd} {vs : List V} {T : St} {TD : Env}, OpsAt σ os vs T TD → T.length = TD.length
  | [], _, _, _, ⟨_, e, f⟩ => by rw [e, f]; rfl
  | .rf i :: os, _, _, _, ⟨v, r, _, _, h⟩ => OpsAt.len h
  | .tm n d :: os, _, _, _, ⟨v, r, T', TD', _, e, f, h⟩ => by rw [e, f]; exact congrArg (· + 1) (OpsAt.len h)
theorem OpsAt.lenv {σ : St} : ∀ {os : List Opd} {vs : List V} {T : St} {TD : Env}, OpsAt σ os vs T TD → vs.length = os.length
  | [], _, _, _, ⟨e, _, _⟩ => by rw [e]; rfl
  | .rf i :: os, _, _, _, ⟨v, r, e, _, h⟩ => by rw [e]; exact congrArg (· + 1) (OpsAt.lenv h)
  | .tm n d :: os, _, _, _, ⟨v, r, T', TD', e, _, _, h⟩ => by rw [e]; exact congrArg (· + 1) (OpsAt.lenv h)
theorem OpsAt.append {σ : St} : ∀ {os os' : List Opd} {vs vs' : List V} {T T' : St} {TD TD' : Env}, OpsAt σ os vs T TD → OpsAt σ os' vs' T' TD' → OpsAt σ (os ++ os') (vs ++ vs') (T ++ T') (TD ++ TD')
  | [], _, _, _, _, _, _, _, ⟨rfl, rfl, rfl⟩, h => h
  | .rf i :: os, _, _, _, _, _, _, _, ⟨v, r, rfl, e, h⟩, q => ⟨v, _, rfl, e, OpsAt.append h q⟩
  | .tm n d :: os, _, _, _, _, _, _, _, ⟨v, r, T', TD', rfl, rfl, rfl, h⟩, q => ⟨v, _, _, _, rfl, rfl, rfl, OpsAt.append h q⟩

def lifts (g : G) (W : WX) (w : WOs) : TA := fun σ H Q => ∃ M0 ρ F Qd Ed, S g M0 H σ ρ F ∧ w ρ Qd Ed ∧
  (∀ os ρ' vs H' F' T TD, Qd os ρ' → OpsAt σ os vs T TD → S g M0 H' (σ ++ T) (ρ' ++ TD) F' → σ.length = ρ'.length → Tr H F H' F' → Q vs H') ∧ Lk g W M0 H σ F Ed
def liftO (g : G) (W : WX) (w : WO) : TE := fun σ H Q => ∃ M0 ρ F Qd Ed, S g M0 H σ ρ F ∧ w ρ Qd Ed ∧
  (∀ o ρ' v H' F' T TD, Qd o ρ' → OpsAt σ [o] [v] T TD → S g M0 H' (σ ++ T) (ρ' ++ TD) F' → σ.length = ρ'.length → Tr H F H' F' → Q v H') ∧ Lk g W M0 H σ F Ed
def liftT (g : G) (W : WX) (w : WT) : TT := fun σ H Q => ∃ M0 ρ F Qd Ed, S g M0 H σ ρ F ∧ w ρ Qd Ed ∧
  (∀ b ρ' H' F', Qd b ρ' → S g M0 H' σ ρ' F' → Tr H F H' F' → Q b H') ∧ Lk g W M0 H σ F Ed
def DO (X : Cx) (g : G) (W : WX) (e : Expr) (w : WO) : Prop := PE X e (liftO g W w)
def DOs (X : Cx) (g : G) (W : WX) (es : List Expr) (w : WOs) : Prop := PA X es (lifts g W w)
def DT (X : Cx) (g : G) (W : WX) (e : Expr) (w : WT) : Prop := PT X e (liftT g W w)
theorem PE.weak {X : Cx} {e : Expr} {t t' : TE} (h : PE X e t) (w : ∀ σ H Q, t' σ H Q → t σ H Q) : PE X e t' := ⟨fun pins s σ H Q I q => h.run pins s σ H Q I (w _ _ _ q)⟩
theorem PA.weak {X : Cx} {e : List Expr} {t t' : TA} (h : PA X e t) (w : ∀ σ H Q, t' σ H Q → t σ H Q) : PA X e t' := ⟨fun pos pins s σ H Q I q => h.run pos pins s σ H Q I (w _ _ _ q)⟩
theorem PT.weak {X : Cx} {e : Expr} {t t' : TT} (h : PT X e t) (w : ∀ σ H Q, t' σ H Q → t σ H Q) : PT X e t' := ⟨fun pins s σ H Q I q => h.run pins s σ H Q I (w _ _ _ q)⟩

/-! ### values as temporaries -/
section
variable {g : G} {M0 : Addr → Prop} {H H' : Hp} {σ T : St} {ρ TD : Env} {F F' : List Addr} {M : Addr → Prop}
/-- a new value: fresh objects, the old ones as they were -/
def NewV (g : G) (H : Hp) (M : Addr → Prop) (n : Nat) (d : D) (v : V) (H' : Hp) : Prop :=
  ∃ Fv, Same H H' ∧ Ow g H' (fun a => M a ∨ a ∈ Fv) d n v Fv ∧ Fv.Nodup ∧ ∀ a ∈ Fv, H a = none
/-- temporaries let go, a new value in their place -/
theorem S.res {n : Nat} {d : D} {v : V} (s : S g M0 H (σ ++ T) (ρ ++ TD) F) (l : σ.length = ρ.length) (h : NewV g H (fun a => M0 a ∨ a ∈ F) n d v H') : ∃ F', S g M0 H' (σ ++ [some v]) (ρ ++ [some (n, d)]) F' ∧ Tr H F H' F' := by
  obtain ⟨Fv, sm, ow, nd, fr⟩ := h
  obtain ⟨F1, F2, rfl, e1, _⟩ := s.env.app l
  obtain ⟨n1, n2, n3⟩ := List.nodup_append.mp s.nd
  have nM : ∀ a ∈ Fv, ¬ M0 a := fun a ha z => s.tk a z (fr a ha)
  have nF : ∀ a ∈ Fv, a ∉ F1 := fun a ha z => s.tracked a (List.mem_append_left _ z) (fr a ha)
  have hm : ∀ a, (M0 a ∨ a ∈ F1 ++ Fv) → (M0 a ∨ a ∈ F1 ++ F2) ∨ a ∈ Fv := fun a z => z.elim (fun z => .inl (.inl z)) fun z => (List.mem_append.mp z).elim (fun z => .inl (.inr (List.mem_append_left _ z))) .inr
  have q1 : EnvR g H' (fun a => M0 a ∨ a ∈ F1 ++ Fv) ρ σ F1 := EnvR.keep (M := fun a => M0 a ∨ a ∈ F1 ++ F2) (fun a z => (hm a z).imp id fun z => fr a z) (fun a o e _ => sm a o e) ρ σ F1 (fun a _ o e => sm a o e) e1
  have q2 : Ow g H' (fun a => M0 a ∨ a ∈ F1 ++ Fv) d n v Fv := Ow.keep (M := fun a => (M0 a ∨ a ∈ F1 ++ F2) ∨ a ∈ Fv) (fun a z => .inl (hm a z)) (fun _ _ e _ => e) d n v Fv (fun _ _ _ e => e) ow
  have q3 : EnvR g H' (fun a => M0 a ∨ a ∈ F1 ++ Fv) [some (n, d)] [some v] Fv := ⟨v, [], Fv, [], rfl, (List.append_nil _).symm, q2, rfl, rfl⟩
  refine ⟨F1 ++ Fv, ⟨q1.append q3, List.nodup_append.mpr ⟨n1, nd, fun a ha b hb e => nF b hb (e ▸ ha)⟩, fun a ha => ?_, fun a z => ?_⟩, ⟨fun a o e _ => sm a o e, fun a ha => ?_⟩⟩
  · exact (List.mem_append.mp ha).elim (fun z => s.dj a (List.mem_append_left _ z)) (nM a)
  · have := s.tk a z
    cases e : H a with
    | none => exact absurd e this
    | some o => rw [sm a o e]; exact fun z => nomatch z
  · exact (List.mem_append.mp ha).elim (fun z => .inl (List.mem_append_left _ z)) fun z => .inr (fr a z)
theorem NewV.sh {d : D} {v : V} (h : Sh g H M d v) : NewV g H M 0 d v H := ⟨[], Same.refl H, ow_zero.mpr ⟨rfl, h.less fun a z => z.elim id fun y => (nomatch y)⟩, .nil, fun _ z => (nomatch z)⟩
theorem NewV.lst {ds : List D} {vs : List V} {p : Addr} (m : ∀ a, M a → H a ≠ none) (h : ShL g H M ds vs) (hp : H p = none) : NewV g H M 1 (.lst ds) (.ref p) (upd H p (.lst vs)) := by
  have sm : Same H (upd H p (.lst vs)) := fun b o e => by rw [upd_ne (ne_of_none e hp)]; exact e
  refine ⟨[p], sm, ⟨p, vs, [], rfl, rfl, upd_same, ?_⟩, by simp, fun a ha => by rw [List.mem_singleton.mp ha]; exact hp⟩
  exact owL_zero.mpr ⟨rfl, ShL.keep (M := M) (fun a z => z.imp id fun y => by rw [List.mem_singleton.mp y]; exact hp) (fun a o e _ => sm a o e) ds vs h⟩
theorem NewV.tup {ds : List D} {vs : List V} {p : Addr} (m : ∀ a, M a → H a ≠ none) (h : ShL g H M ds vs) (hp : H p = none) : NewV g H M 0 (.tup ds) (.ref p) (upd H p (.tup vs)) := by
  have sm : Same H (upd H p (.tup vs)) := fun b o e => by rw [upd_ne (ne_of_none e hp)]; exact e
  refine ⟨[], sm, ow_zero.mpr ⟨rfl, p, vs, rfl, .inl ⟨fun z => z.elim (fun z => m p z hp) fun y => (nomatch y), upd_same⟩, ?_⟩, .nil, fun a ha => nomatch ha⟩
  exact ShL.keep (M := M) (fun a z => z.elim .inl fun y => nomatch y) (fun a o e _ => sm a o e) ds vs h
/-- the temporaries alone let go -/
theorem S.letgo (s : S g M0 H (σ ++ T) (ρ ++ TD) F) (l : σ.length = ρ.length) : ∃ F', S g M0 H σ ρ F' ∧ Tr H F H F' := by
  obtain ⟨F1, F2, rfl, e1, _⟩ := s.split l
  exact ⟨F1, e1.less0 fun a z => .inl z, Tr.sub fun a z => List.mem_append_left _ z⟩

/-! ### what is to be seen of an operand -/
/-- the elements stand away from M -/
def El (g : G) (H : Hp) (M : Addr → Prop) : D → V → Prop
  | .lst ds, v => ∃ a vs, v = .ref a ∧ H a = some (.lst vs) ∧ ShL g H M ds vs
  | .ins C ns ds, v => ∃ a dx vs, v = .ref a ∧ H a = some (.ins (He.ga g.K C) dx (ns.zip vs)) ∧ ns.length = vs.length ∧ ShL g H M ds vs
  | d, v => Sh g H M d v
theorem El.of {d : D} {v : V} (h : Sh g H M d v) : El g H M d v := by
  cases d with
  | lst ds =>
    obtain ⟨a, vs, e, t, r⟩ := h
    exact ⟨a, vs, e, t.2, r⟩
  | ins C ns ds =>
    obtain ⟨a, dx, vs, e, n, q, l, r⟩ := h
    exact ⟨a, dx, vs, e, q, l, r⟩
  | _ => exact h
theorem El.less {M' : Addr → Prop} {d : D} {v : V} (m : ∀ a, M' a → M a) (h : El g H M d v) : El g H M' d v := by
  cases d with
  | lst ds =>
    obtain ⟨a, vs, e, t, r⟩ := h
    exact ⟨a, vs, e, t, r.less m⟩
  | ins C ns ds =>
    obtain ⟨a, dx, vs, e, q, l, r⟩ := h
    exact ⟨a, dx, vs, e, q, l, r.less m⟩
  | _ => exact Sh.less m h
theorem Ow.el {d : D} {n : Nat} {v : V} {F : List Addr} (hn : n ≤ 1) (h : Ow g H M d n v F) : El g H M d v := by
  match n, hn with
  | 0, _ => exact El.of (ow_zero.mp h).2
  | 1, _ =>
    cases d with
    | lst ds =>
      obtain ⟨a, vs, J, e, _, q, r⟩ := h
      exact ⟨a, vs, e, q, (owL_zero.mp r).2⟩
    | ins C ns ds =>
      obtain ⟨a, dx, vs, J, e, _, q, l, r⟩ := h
      exact ⟨a, dx, vs, e, q, l, (owL_zero.mp r).2⟩
    | _ => exact h.2
mutual
theorem Ow.see : ∀ (d : D) (n : Nat) (v : V) (F : List Addr), Ow g H M d n v F → Sh g H (fun _ => False) d v
  | .lst ds, n + 1, _, _, h => by
    obtain ⟨a, vs, J, e, _, q, r⟩ := h
    exact ⟨a, vs, e, ⟨fun z => z, q⟩, OwL.see ds n vs J r⟩
  | .ins C ns ds, n + 1, _, _, h => by
    obtain ⟨a, dx, vs, J, e, _, q, l, r⟩ := h
    exact ⟨a, dx, vs, e, fun z => z, q, l, OwL.see ds n vs J r⟩
  | .lst ds, 0, v, _, h => h.2.less fun _ z => z.elim
  | .ins C ns ds, 0, v, _, h => h.2.less fun _ z => z.elim
  | .non, n, v, F, h => by have e : v = .non := by cases n <;> exact h.2
                           exact e
  | .bl b, n, v, F, h => by have e : v = .bl b := by cases n <;> exact h.2
                            exact e
  | .int b, n, v, F, h => by have e : v = .int b := by cases n <;> exact h.2
                             exact e
  | .str b, n, v, F, h => by have e : v = .str b := by cases n <;> exact h.2
                             exact e
  | .ty b, n, v, F, h => by have e : v = .ty b := by cases n <;> exact h.2
                            exact e
  | .cls b, n, v, F, h => by have e : v = .ref (He.ga g.K b) := by cases n <;> exact h.2
                             exact e
  | .tup ds, n, v, F, h => by
    have e : Sh g H M (.tup ds) v := by cases n <;> exact h.2
    exact e.less fun _ z => z.elim
  | .scr ds, n, v, F, h => by
    have e : Sh g H M (.scr ds) v := by cases n <;> exact h.2
    exact e.less fun _ z => z.elim
  | .xr C ns ds, n, v, F, h => by
    have e : Sh g H M (.xr C ns ds) v := by cases n <;> exact h.2
    exact e.less fun _ z => z.elim
theorem OwL.see : ∀ (ds : List D) (n : Nat) (vs : List V) (F : List Addr), OwL g H M ds n vs F → ShL g H (fun _ => False) ds vs
  | [], _, _, _, h => h.1
  | d :: ds, n, _, _, h => by
    obtain ⟨v, r, J1, J2, e, _, h1, h2⟩ := h
    exact ⟨v, r, e, Ow.see d n v J1 h1, OwL.see ds n r J2 h2⟩
end
/-- a slot seen -/
theorem EnvR.at {i : Nat} {n : Nat} {d : D} (h : EnvR g H M ρ σ F) (e : ρ[i]? = some (some (n, d))) : ∃ v Fi, σ[i]? = some (some v) ∧ (∀ a ∈ Fi, a ∈ F) ∧ Ow g H M d n v Fi := by
  obtain ⟨v, Fi, Fo, a, b, c, _⟩ := EnvR.take h e
  exact ⟨v, Fi, a, fun x hx => b.mem_iff.mp (List.mem_append_left _ hx), c⟩
/-- a slot owned less deep -/
theorem S.down {i n m : Nat} {d : D} (s : S g M0 H σ ρ F) (e : ρ[i]? = some (some (n, d))) (hm : m ≤ n) : ∃ F', S g M0 H σ (ρ.set i (some (m, d))) F' ∧ Tr H F H F' := by
  obtain ⟨v, Fi, Fo, hv, p, ow, rest⟩ := s.env.take e
  have nd : (Fi ++ Fo).Nodup := p.nodup_iff.mpr s.nd
  obtain ⟨n1, n2, n3⟩ := List.nodup_append.mp nd
  obtain ⟨F1, sub, R⟩ := Ow.down d n m v Fi hm ow
  have hsub : ∀ a ∈ F1 ++ Fo, a ∈ F := fun a z => p.mem_iff.mp ((List.mem_append.mp z).elim (fun z => List.mem_append_left _ (sub.subset z)) (List.mem_append_right _))
  have nd' : (F1 ++ Fo).Nodup := (sub.append (List.Sublist.refl Fo)).nodup nd
  have hM : ∀ a, (M0 a ∨ a ∈ F1 ++ Fo) → (M0 a ∨ a ∈ F) := fun a z => z.imp id (hsub a)
  have ow' := R (fun a => M0 a ∨ a ∈ F1 ++ Fo) hM (fun a ha z => z.elim (fun z => absurd z (s.dj a (p.mem_iff.mp (List.mem_append_left _ ha)))) fun z => (List.mem_append.mp z).elim id fun z => absurd rfl (n3 a ha a z)) n1
  have hl : i < ρ.length := (List.getElem?_eq_some_iff.mp e).1
  obtain ⟨F2, p2, q⟩ := EnvR.put (n := m) (d := d) (v := v) (i := i) (rest.less hM) (by rw [List.getElem?_set_self hl]) ow'
  rw [List.set_set] at q
  have hσ : σ.set i (some v) = σ := by
    apply List.ext_getElem?
    intro j
    by_cases hj : i = j
    · subst hj
      rw [List.getElem?_set_self (List.getElem?_eq_some_iff.mp hv).1, hv]
    · rw [List.getElem?_set_ne hj]
  rw [hσ] at q
  refine ⟨F2, ⟨q.less fun a z => z.imp id fun z => p2.mem_iff.mpr z, p2.nodup_iff.mp nd', fun a ha => s.dj a (hsub a (p2.mem_iff.mpr ha)), s.tk⟩, Tr.sub fun a z => hsub a (p2.mem_iff.mpr z)⟩
end
theorem set_eq {α : Type} {l : List α} {i : Nat} {x : α} (h : l[i]? = some x) : l.set i x = l := by
  apply List.ext_getElem?
  intro j
  by_cases hj : i = j
  · subst hj
    rw [List.getElem?_set_self (List.getElem?_eq_some_iff.mp h).1, h]
  · rw [List.getElem?_set_ne hj]

/-- an operand's datum; a name that owns deep owns but its list from now on -/
def opnd (ρ : Env) (o : Opd) (k : D → Env → Prop) : Prop := match o with
  | .tm _ d => k d ρ
  | .rf i => match ρ[i]? with
    | some (some (n, d)) => k d (if n ≤ 1 then ρ else ρ.set i (some (1, d)))
    | _ => False
def opnds : Env → List Opd → (List D → Env → Prop) → Prop
  | ρ, [], k => k [] ρ
  | ρ, o :: os, k => opnd ρ o fun d ρ' => opnds ρ' os fun ds ρ'' => k (d :: ds) ρ''
/-- an operand's datum, seen only -/
def opnv (ρ : Env) (o : Opd) (k : D → Prop) : Prop := match o with
  | .tm _ d => k d
  | .rf i => match ρ[i]? with
    | some (some (_, d)) => k d
    | _ => False
def opnvs : Env → List Opd → (List D → Prop) → Prop
  | _, [], k => k []
  | ρ, o :: os, k => opnv ρ o fun d => opnvs ρ os fun ds => k (d :: ds)
section
variable {g : G} {M0 : Addr → Prop} {H H' : Hp} {σ : St}
theorem S.els : ∀ {os : List Opd} {ρ : Env} {vs : List V} {T T0 : St} {TD TD0 : Env} {F : List Addr} {k : List D → Env → Prop}, S g M0 H (σ ++ (T0 ++ T)) (ρ ++ (TD0 ++ TD)) F → σ.length = ρ.length → T0.length = TD0.length → OpsAt σ os vs T TD → opnds ρ os k →
    ∃ ds ρ' TD' F', k ds ρ' ∧ S g M0 H (σ ++ (T0 ++ T)) (ρ' ++ TD') F' ∧ σ.length = ρ'.length ∧ Tr H F H F' ∧ Paired (El g H (fun a => M0 a ∨ a ∈ F')) ds vs
  | [], ρ, _, _, _, _, TD0, F, k, s, l, _, ⟨rfl, rfl, rfl⟩, h => ⟨[], ρ, _, F, h, s, l, Tr.refl, .nil⟩
  | .rf i :: os, ρ, _, T, T0, TD, TD0, F, k, s, l, l0, ⟨v, r, rfl, hv, ho⟩, h => by
    have h1 : (match ρ[i]? with
      | some (some (n, d)) => opnds (if n ≤ 1 then ρ else ρ.set i (some (1, d))) os fun ds ρ'' => k (d :: ds) ρ''
      | _ => False) := h
    cases e : ρ[i]? with
    | none => rw [e] at h1; exact h1.elim
    | some sl =>
      cases sl with
      | none => rw [e] at h1; exact h1.elim
      | some p =>
        obtain ⟨n, d⟩ := p
        rw [e] at h1
        have hi : i < ρ.length := (List.getElem?_eq_some_iff.mp e).1
        -- the state in which the slot owns at most its list
        have key : ∃ F1 m, m ≤ 1 ∧ (if n ≤ 1 then ρ else ρ.set i (some (1, d)))[i]? = some (some (m, d)) ∧ S g M0 H (σ ++ (T0 ++ T)) ((if n ≤ 1 then ρ else ρ.set i (some (1, d))) ++ (TD0 ++ TD)) F1 ∧ Tr H F H F1 := by
          by_cases hn : n ≤ 1
          · rw [if_pos hn]
            exact ⟨F, n, hn, e, s, Tr.refl⟩
          · rw [if_neg hn]
            obtain ⟨F1, s1, t1⟩ := s.down (i := i) (n := n) (d := d) (m := 1) (by rw [List.getElem?_append_left hi, e]) (by omega)
            rw [List.set_append_left _ _ hi] at s1
            exact ⟨F1, 1, Nat.le_refl _, by rw [List.getElem?_set_self hi], s1, t1⟩
        obtain ⟨F1, m, hm, e1, s1, t1⟩ := key
        have l1 : σ.length = (if n ≤ 1 then ρ else ρ.set i (some (1, d))).length := by
          split
          · exact l
          · rw [List.length_set]; exact l
        have hi1 : i < (if n ≤ 1 then ρ else ρ.set i (some (1, d))).length := by rw [← l1, l]; exact hi
        obtain ⟨ds, ρ', TD', F', hk, s2, l2, t2, P⟩ := S.els s1 l1 l0 ho h1
        obtain ⟨u, Fi, hu, hF, ow⟩ := s1.env.at (i := i) (n := m) (d := d) (by rw [List.getElem?_append_left hi1, e1])
        rw [List.getElem?_append_left (by rw [l]; exact hi), hv] at hu
        cases hu
        refine ⟨d :: ds, ρ', TD', F', hk, s2, l2, t1.trans t2, .cons ?_ P⟩
        refine El.less (fun a z => z.imp id fun z => ?_) (ow.el hm)
        rcases t2.new a z with y | y
        · exact y
        · exact absurd y (s2.tracked a z)
  | .tm n d :: os, ρ, _, _, T0, _, TD0, F, k, s, l, l0, hh, h => by
    obtain ⟨v, r, T', TD', rfl, rfl, rfl, ho⟩ := hh
    have h1 : opnds ρ os fun ds ρ'' => k (d :: ds) ρ'' := h
    have ix : (ρ ++ (TD0 ++ some (n, d) :: TD'))[ρ.length + TD0.length]? = some (some (n, d)) := by
      rw [List.getElem?_append_right (by omega), List.getElem?_append_right (by omega)]
      simp
    have iv : (σ ++ (T0 ++ some v :: T'))[ρ.length + TD0.length]? = some (some v) := by
      rw [List.getElem?_append_right (by omega), List.getElem?_append_right (by omega)]
      simp [l, l0]
    obtain ⟨F1, s1, t1⟩ := s.down (m := min n 1) ix (Nat.min_le_left _ _)
    have es : (ρ ++ (TD0 ++ some (n, d) :: TD')).set (ρ.length + TD0.length) (some (min n 1, d)) = ρ ++ ((TD0 ++ [some (min n 1, d)]) ++ TD') := by
      rw [List.set_append_right _ _ (by omega), List.set_append_right _ _ (by omega)]
      simp
    have ev : σ ++ (T0 ++ some v :: T') = σ ++ ((T0 ++ [some v]) ++ T') := by simp
    obtain ⟨u, Fi, hu, hF, ow⟩ := s1.env.at (i := ρ.length + TD0.length) (n := min n 1) (d := d) (by rw [List.getElem?_set_self (by simp)])
    rw [iv] at hu
    cases hu
    rw [es, ev] at s1
    obtain ⟨ds, ρ', TD'', F', hk, s2, l2, t2, P⟩ := S.els s1 l (by simp [l0]) ho h1
    rw [← ev] at s2
    refine ⟨d :: ds, ρ', TD'', F', hk, s2, l2, t1.trans t2, .cons ?_ P⟩
    refine El.less (fun a z => z.imp id fun z => ?_) (ow.el (Nat.min_le_right _ _))
    rcases t2.new a z with y | y
    · exact y
    · exact absurd y (s2.tracked a z)
/-- the operands seen only -/
theorem S.sees {ρ TDx : Env} {Tx : St} {F : List Addr} : ∀ {os : List Opd} {vs : List V} {T T0 : St} {TD TD0 : Env} {k : List D → Prop}, S g M0 H (σ ++ (T0 ++ T)) (ρ ++ (TD0 ++ TD)) F → σ.length = ρ.length → T0.length = TD0.length → OpsAt σ os vs T TD → opnvs ρ os k →
    ∃ ds, k ds ∧ Paired (Sh g H (fun _ => False)) ds vs
  | [], _, _, _, _, TD0, k, s, l, _, ⟨rfl, rfl, rfl⟩, h => ⟨[], h, .nil⟩
  | .rf i :: os, _, T, T0, TD, TD0, k, s, l, l0, ⟨v, r, rfl, hv, ho⟩, h => by
    have h1 : (match ρ[i]? with
      | some (some (_, d)) => opnvs ρ os fun ds => k (d :: ds)
      | _ => False) := h
    cases e : ρ[i]? with
    | none => rw [e] at h1; exact h1.elim
    | some sl =>
      cases sl with
      | none => rw [e] at h1; exact h1.elim
      | some p =>
        obtain ⟨n, d⟩ := p
        rw [e] at h1
        have hi : i < ρ.length := (List.getElem?_eq_some_iff.mp e).1
        obtain ⟨ds, hk, P⟩ := S.sees (Tx := Tx) (TDx := TDx) s l l0 ho h1
        obtain ⟨u, Fi, hu, hF, ow⟩ := s.env.at (i := i) (n := n) (d := d) (by rw [List.getElem?_append_left hi, e])
        rw [List.getElem?_append_left (by rw [l]; exact hi), hv] at hu
        cases hu
        exact ⟨d :: ds, hk, .cons (Ow.see d n _ Fi ow) P⟩
  | .tm n d :: os, _, _, T0, _, TD0, k, s, l, l0, hh, h => by
    obtain ⟨v, r, T', TD', rfl, rfl, rfl, ho⟩ := hh
    have h1 : opnvs ρ os fun ds => k (d :: ds) := h
    have ix : (ρ ++ (TD0 ++ some (n, d) :: TD'))[ρ.length + TD0.length]? = some (some (n, d)) := by
      rw [List.getElem?_append_right (by omega), List.getElem?_append_right (by omega)]
      simp
    have iv : (σ ++ (T0 ++ some v :: T'))[ρ.length + TD0.length]? = some (some v) := by
      rw [List.getElem?_append_right (by omega), List.getElem?_append_right (by omega)]
      simp [l, l0]
    obtain ⟨u, Fi, hu, hF, ow⟩ := s.env.at ix
    rw [iv] at hu
    cases hu
    have es : ρ ++ (TD0 ++ some (n, d) :: TD') = ρ ++ ((TD0 ++ [some (n, d)]) ++ TD') := by simp
    have ev : σ ++ (T0 ++ some v :: T') = σ ++ ((T0 ++ [some v]) ++ T') := by simp
    rw [es, ev] at s
    obtain ⟨ds, hk, P⟩ := S.sees (Tx := Tx) (TDx := TDx) s l (by simp [l0]) ho h1
    exact ⟨d :: ds, hk, .cons (Ow.see d n _ Fi ow) P⟩
end
end Z

set_option Elab.async false
set_option linter.all false
set_option maxRecDepth 100000
set_option maxHeartbeats 4000000
/-! Dp4: operand lists; rules for expressions by values. -/
namespace Z
open PySem PySem.Spec PyProof.Rows L2
section
variable {g : G} {W : WX} {M0 : Addr → Prop} {H H' : Hp} {σ : St} {ρ : Env} {F F' : List Addr} {Ed : ED}
theorem Lk.part {F2 : List Addr} (h : Lk g W M0 H σ (F ++ F2) Ed) : Lk g W (fun a => M0 a ∨ a ∈ F2) H σ F Ed := fun x ρ' H1 F1 cls dd e s t r =>
  h x ρ' H1 F1 cls dd e (s.less0 fun a z => .inl z) ⟨fun a o e n => t.keep a o e fun z => n (List.mem_append_left _ z), fun a z => (t.new a z).imp (List.mem_append_left _) id⟩ (r.less fun a z => z.imp .inl id)
theorem S.swap {T T2 : St} {TD TD2 : Env} (s : S g M0 H (σ ++ (T2 ++ T)) (ρ ++ (TD2 ++ TD)) F) (l : σ.length = ρ.length) (l2 : T2.length = TD2.length) : ∃ F', F'.Perm F ∧ S g M0 H (σ ++ (T ++ T2)) (ρ ++ (TD ++ TD2)) F' := by
  obtain ⟨F1, F2, rfl, e1, e2⟩ := s.env.app l
  obtain ⟨F3, F4, rfl, e3, e4⟩ := e2.app l2
  have p : (F1 ++ (F4 ++ F3)).Perm (F1 ++ (F3 ++ F4)) := List.perm_append_comm.append_left F1
  exact ⟨_, p, (e1.append (e4.append e3)).less (fun a z => z.imp id fun z => p.mem_iff.mp z), p.nodup_iff.mpr s.nd, fun a ha => s.dj a (p.mem_iff.mp ha), s.tk⟩

def wNil : WOs := fun ρ Q _ => Q [] ρ
def wCons (wa : WO) (wr : WOs) : WOs := fun ρ Q E => wa ρ (fun o ρ1 => wr ρ1 (fun os ρ2 => Q (o :: os) ρ2) E) E
theorem lifts_nil {Q : List V → Hp → Prop} (h : lifts g W wNil σ H Q) : Q [] H := by
  obtain ⟨M0, ρ, F, Qd, Ed, s, hw, k, _⟩ := h
  exact k [] ρ [] H F [] [] hw ⟨rfl, rfl, rfl⟩ (by simpa using s) s.len Tr.refl
theorem lifts_cons {wa : WO} {wr : WOs} {Q : List V → Hp → Prop} (h : lifts g W (wCons wa wr) σ H Q) : liftO g W wa σ H fun x H1 => lifts g W wr σ H1 fun xs H2 => Q (x :: xs) H2 := by
  obtain ⟨M0, ρ, F, Qd, Ed, s, hw, k, lk⟩ := h
  refine ⟨M0, ρ, F, _, Ed, s, hw, fun o ρ1 v H1 F1 T TD hwr ho s1 l1 t1 => ?_, lk⟩
  have s1' := s1
  obtain ⟨Fa, Fb, rfl, sa, eb⟩ := s1'.split l1
  refine ⟨_, ρ1, Fa, _, Ed, sa, hwr, fun os ρ2 vs H2 F2 T2 TD2 hq ho2 s2 l2 t2 => ?_, ((lk.step t1).part)⟩
  have l3 : (σ ++ T2).length = (ρ2 ++ TD2).length := by rw [List.length_append, List.length_append, l2, ho2.len]
  obtain ⟨n1, n2, n3⟩ := List.nodup_append.mp s1.nd
  have j := S.join (M0 := M0) s2 eb n2 (fun a ha => s1.dj a (List.mem_append_right _ ha)) s1.tk (fun a ha hb => n3 a hb a ha rfl) t2
  rw [List.append_assoc, List.append_assoc] at j
  obtain ⟨F', p, s3⟩ := j.swap l2 ho2.len
  refine k (o :: os) ρ2 (v :: vs) H2 F' (T ++ T2) (TD ++ TD2) hq (ho.append ho2) s3 l2 ((t1.trans (t2.widen (F2 := Fb))).trans (Tr.of_perm p))
end
section
variable {X : Cx} {g : G} {W : WX} {e : Expr} {es : List Expr} {wa : WO} {wr : WOs} {pos : Pos}
theorem dos_nil : DOs X g W [] wNil := PA.weak pa_nil fun σ H Q h => lifts_nil h
theorem dos_cons (ha : DO X g W e wa) (hr : DOs X g W es wr) (hs : starEach (e :: es) X.env = (false, eval e X.env) :: starEach es X.env := by rfl) : DOs X g W (e :: es) (wCons wa wr) := PA.weak (pa_cons ha hr hs) fun σ H Q h => lifts_cons h

/-! ### constants, names -/
def wC (d : D) : WO := fun ρ Q _ => Q (.tm 0 d) ρ
/-- a scalar's value -/
def scV : D → Option V
  | .non => some .non
  | .bl b => some (.bl b)
  | .int i => some (.int i)
  | .str x => some (.str x)
  | .ty n => some (.ty n)
  | _ => none
theorem sh_scV {H : Hp} {M : Addr → Prop} {d : D} {v : V} (h : scV d = some v) : Sh g H M d v := by
  cases d <;> first | (cases h; rfl) | cases h
theorem lift_sc {d : D} {v : V} (hd : scV d = some v) {σ : St} {H : Hp} {Q : VK} (h : liftO g W (wC d) σ H Q) : Q v H := by
  obtain ⟨M0, ρ, F, Qd, Ed, s, hw, k, _⟩ := h
  obtain ⟨F', s', t⟩ := S.res (T := []) (TD := []) (n := 0) (d := d) (v := v) (by simpa using s) s.len (NewV.sh (sh_scV hd))
  exact k (.tm 0 d) ρ v H F' [some v] [some (0, d)] hw ⟨v, [], [], [], rfl, rfl, rfl, rfl, rfl, rfl⟩ s' s.len t
theorem do_int {i : Int} {j : Nat} : DO X g W (.Constant (.int i) j pos) (wC (.int i)) := PE.weak pe_int fun σ H Q h => lift_sc rfl h
theorem do_bl {b : Bool} {j : Nat} : DO X g W (.Constant (.bool b) j pos) (wC (.bl b)) := PE.weak pe_bl fun σ H Q h => lift_sc rfl h
theorem do_non {j : Nat} : DO X g W (.Constant .none j pos) (wC .non) := PE.weak pe_non fun σ H Q h => lift_sc rfl h
theorem do_str {x : Str} {j : Nat} : DO X g W (.Constant (.str x) j pos) (wC (.str x)) := PE.weak pe_str fun σ H Q h => lift_sc rfl h
theorem do_glob {x : Str} {v : V} {u : Value} {d : D} (hg : Gl X x) (hm : X.mg x = some u) (r : RelV v u) (hd : scV d = some v) (hdb : (x == ("__debug__" : Str)) = false := by decide) : DO X g W (.Name x pos) (wC d) :=
  PE.weak (pe_glob hg hm r hdb) fun σ H Q h => lift_sc hd h
def wV (i : Nat) : WO := fun ρ Q _ => match ρ[i]? with
  | some (some _) => Q (.rf i) ρ
  | _ => False
theorem lift_var {i : Nat} {σ : St} {H : Hp} {Q : VK} (h : liftO g W (wV i) σ H Q) : tVar i σ H Q := by
  obtain ⟨M0, ρ, F, Qd, Ed, s, hw, k, _⟩ := h
  have hw' : (match ρ[i]? with
    | some (some _) => Qd (.rf i) ρ
    | _ => False) := hw
  cases e : ρ[i]? with
  | none => rw [e] at hw'; exact hw'.elim
  | some sl =>
    cases sl with
    | none => rw [e] at hw'; exact hw'.elim
    | some p =>
      obtain ⟨n, d⟩ := p
      rw [e] at hw'
      obtain ⟨v, _, hv, _⟩ := s.env.at e
      exact ⟨v, hv, k (.rf i) ρ v H F [] [] hw' ⟨v, [], rfl, hv, rfl, rfl, rfl⟩ (by simpa using s) s.len Tr.refl⟩
theorem do_var {i : Nat} {x : Str} (hN : X.N[i]? = some x) (hv : Vis X.env.scope x) (hd : (x == ("__debug__" : Str)) = false := by decide) (hcd : (x == ("__classdict__" : Str)) = false := by decide) : DO X g W (.Name x pos) (wV i) :=
  PE.weak (pe_var hN hv hd hcd) fun σ H Q h => lift_var h

/-! ### operations by values -/
/-- f of operands whose elements are reached: r tells the answer -/
abbrev RE := List D → (Nat → D → Prop) → Prop
/-- f of operands that are only seen; a scalar's answer -/
abbrev RV := List D → (D → Prop) → Prop
def wE (r : RE) (wa : WOs) : WO := fun ρ Q E => wa ρ (fun os ρ' => opnds ρ' os fun ds ρ'' => r ds fun n d => Q (.tm n d) ρ'') E
def wS (r : RV) (wa : WOs) : WO := fun ρ Q E => wa ρ (fun os ρ' => opnvs ρ' os fun ds => r ds fun d => Q (.tm 0 d) ρ') E
/-- what is asked of a rule by values -/
def RdE (g : G) (r : RE) (vs : List V) (H : Hp) (Q : VK) : Prop := ∃ M ds Qd, (∀ a, M a → H a ≠ none) ∧ Paired (El g H M) ds vs ∧ r ds Qd ∧ ∀ n d v H', Qd n d → NewV g H M n d v H' → Q v H'
def RdV (g : G) (r : RV) (vs : List V) (H : Hp) (Q : VK) : Prop := ∃ ds Qd, Paired (Sh g H fun _ => False) ds vs ∧ r ds Qd ∧ ∀ d v, Qd d → scV d = some v → Q v H
theorem lifts_E {r : RE} {σ : St} {H : Hp} {Q : VK} (h : liftO g W (wE r wr) σ H Q) : lifts g W wr σ H fun vs H1 => RdE g r vs H1 Q := by
  obtain ⟨M0, ρ, F, Qd, Ed, s, hw, k, lk⟩ := h
  refine ⟨M0, ρ, F, _, Ed, s, hw, fun os ρ1 vs H1 F1 T TD hq ho s1 l1 t1 => ?_, lk⟩
  obtain ⟨ds, ρ2, TD2, F2, hr, s2, l2, t2, P⟩ := S.els (T0 := []) (TD0 := []) (by simpa using s1) l1 rfl ho hq
  refine ⟨fun a => M0 a ∨ a ∈ F2, ds, _, fun a z => z.elim (s2.tk a) (s2.tracked a), P, hr, fun n d v H2 hd hn => ?_⟩
  obtain ⟨F3, s3, t3⟩ := S.res s2 l2 hn
  exact k (.tm n d) ρ2 v H2 F3 [some v] [some (n, d)] hd ⟨v, [], [], [], rfl, rfl, rfl, rfl, rfl, rfl⟩ s3 l2 ((t1.trans t2).trans t3)
theorem lifts_V {r : RV} {σ : St} {H : Hp} {Q : VK} (h : liftO g W (wS r wr) σ H Q) : lifts g W wr σ H fun vs H1 => RdV g r vs H1 Q := by
  obtain ⟨M0, ρ, F, Qd, Ed, s, hw, k, lk⟩ := h
  refine ⟨M0, ρ, F, _, Ed, s, hw, fun os ρ1 vs H1 F1 T TD hq ho s1 l1 t1 => ?_, lk⟩
  obtain ⟨ds, hr, P⟩ := S.sees (Tx := []) (TDx := []) (T0 := []) (TD0 := []) (by simpa using s1) l1 rfl ho hq
  refine ⟨ds, _, P, hr, fun d v hd hv => ?_⟩
  obtain ⟨F3, s3, t3⟩ := S.res (n := 0) (d := d) (v := v) s1 l1 (NewV.sh (sh_scV hv))
  exact k (.tm 0 d) ρ1 v H1 F3 [some v] [some (0, d)] hd ⟨v, [], [], [], rfl, rfl, rfl, rfl, rfl, rfl⟩ s3 l1 (t1.trans t3)
/-- one, two operands -/
abbrev w1 (wa : WO) : WOs := wCons wa wNil
abbrev w2 (wa wb : WO) : WOs := wCons wa (wCons wb wNil)
theorem lifts_1 {σ : St} {H : Hp} {Q : List V → Hp → Prop} (h : lifts g W (w1 wa) σ H Q) : liftO g W wa σ H fun x H1 => Q [x] H1 := by
  obtain ⟨M0, ρ, F, Qd, Ed, s, hw, k, lk⟩ := lifts_cons h
  exact ⟨M0, ρ, F, Qd, Ed, s, hw, fun o ρ1 v H1 F1 T TD hq ho s1 l1 t1 => lifts_nil (k o ρ1 v H1 F1 T TD hq ho s1 l1 t1), lk⟩
theorem liftO_mono {w : WO} {σ : St} {H : Hp} {Q Q' : VK} (h : liftO g W w σ H Q) (m : ∀ v H, Q v H → Q' v H) : liftO g W w σ H Q' := by
  obtain ⟨M0, ρ, F, Qd, Ed, s, hw, k, lk⟩ := h
  exact ⟨M0, ρ, F, Qd, Ed, s, hw, fun o ρ1 v H1 F1 T TD hq ho s1 l1 t1 => m _ _ (k o ρ1 v H1 F1 T TD hq ho s1 l1 t1), lk⟩
theorem lifts_2 {wb : WO} {σ : St} {H : Hp} {Q : List V → Hp → Prop} (h : lifts g W (w2 wa wb) σ H Q) : liftO g W wa σ H fun x H1 => liftO g W wb σ H1 fun y H2 => Q [x, y] H2 :=
  liftO_mono (lifts_cons h) fun _ _ h => lifts_1 h

def OpE (X : Cx) (g : G) (f : Value → Value → Sem Value) (r : RE) : Prop := OpR X f fun x y H Q => RdE g r [x, y] H Q
def OpV (X : Cx) (g : G) (f : Value → Value → Sem Value) (r : RV) : Prop := OpR X f fun x y H Q => RdV g r [x, y] H Q
def CallE (X : Cx) (g : G) (f : Value) (r : RE) : Prop := CallR X f fun vs H Q => RdE g r vs H Q
def CallV (X : Cx) (g : G) (f : Value) (r : RV) : Prop := CallR X f fun vs H Q => RdV g r vs H Q
variable {a b : Expr} {wb : WO}
theorem do_bin {op : Operator} {r : RE} (ho : OpE X g (binaryOp op) r) (ha : DO X g W a wa) (hb : DO X g W b wb) : DO X g W (.BinOp a op b pos) (wE r (w2 wa wb)) :=
  PE.weak (pe_op ho ha hb) fun σ H Q h => lifts_2 (lifts_E h)
theorem do_cmp {op : CmpOp} {r : RV} (ho : OpV X g (compareOp op) r) (ha : DO X g W a wa) (hb : DO X g W b wb) (hm : behindInMarks op b = false) : DO X g W (.Compare a [op] [b] pos) (wS r (w2 wa wb)) :=
  PE.weak (pe_cmpR ho ha hb hm) fun σ H Q h => lifts_2 (lifts_V h)
theorem do_callB {x : Str} {id : String} {r : RE} {p : Pos} (hc : CallE X g (.builtin id) r) (hg : Gl X x) (hm : X.mg x = none) (hv : bootBuiltins x = some (.builtin id)) (ha : DOs X g W (e :: es) wr) (hn : x ≠ "__name__" := by decide) (hdb : (x == ("__debug__" : Str)) = false := by decide)
    (he : starEach (e :: es) X.env = (false, eval e X.env) :: starEach es X.env := by rfl) (hpl : (backTo pos (starEach es X.env)).any (·.1) = false := by rfl) : DO X g W (.Call (.Name x p) (e :: es) [] pos) (wE r wr) :=
  PE.weak (pe_callB hc hg hm hv ha hn hdb he hpl) fun σ H Q h => lifts_E h
theorem do_callT {x : Str} {id : String} {r : RE} {p : Pos} (hc : CallE X g (.type id) r) (hg : Gl X x) (hm : X.mg x = none) (hv : bootBuiltins x = some (.type id)) (ha : DOs X g W (e :: es) wr) (hn : x ≠ "__name__" := by decide) (hdb : (x == ("__debug__" : Str)) = false := by decide)
    (he : starEach (e :: es) X.env = (false, eval e X.env) :: starEach es X.env := by rfl) (hpl : (backTo pos (starEach es X.env)).any (·.1) = false := by rfl) : DO X g W (.Call (.Name x p) (e :: es) [] pos) (wE r wr) :=
  PE.weak (pe_callTy hc hg hm hv ha hn hdb he hpl) fun σ H Q h => lifts_E h
theorem do_callBV {x : Str} {id : String} {r : RV} {p : Pos} (hc : CallV X g (.builtin id) r) (hg : Gl X x) (hm : X.mg x = none) (hv : bootBuiltins x = some (.builtin id)) (ha : DOs X g W (e :: es) wr) (hn : x ≠ "__name__" := by decide) (hdb : (x == ("__debug__" : Str)) = false := by decide)
    (he : starEach (e :: es) X.env = (false, eval e X.env) :: starEach es X.env := by rfl) (hpl : (backTo pos (starEach es X.env)).any (·.1) = false := by rfl) : DO X g W (.Call (.Name x p) (e :: es) [] pos) (wS r wr) :=
  PE.weak (pe_callB hc hg hm hv ha hn hdb he hpl) fun σ H Q h => lifts_V h
theorem do_callTV {x : Str} {id : String} {r : RV} {p : Pos} (hc : CallV X g (.type id) r) (hg : Gl X x) (hm : X.mg x = none) (hv : bootBuiltins x = some (.type id)) (ha : DOs X g W (e :: es) wr) (hn : x ≠ "__name__" := by decide) (hdb : (x == ("__debug__" : Str)) = false := by decide)
    (he : starEach (e :: es) X.env = (false, eval e X.env) :: starEach es X.env := by rfl) (hpl : (backTo pos (starEach es X.env)).any (·.1) = false := by rfl) : DO X g W (.Call (.Name x p) (e :: es) [] pos) (wS r wr) :=
  PE.weak (pe_callTy hc hg hm hv ha hn hdb he hpl) fun σ H Q h => lifts_V h
theorem do_un {op : UnaryOp} {r : RV} (ho : UnR X (unaryOp op) fun x H Q => RdV g r [x] H Q) (ha : DO X g W a wa) : DO X g W (.UnaryOp op a pos) (wS r (w1 wa)) :=
  PE.weak (pe_un ho ha) fun σ H Q h => lifts_1 (lifts_V h)
theorem do_ix {r : RE} (hr : IxR X fun x y H Q => RdE g r [x, y] H Q) (ha : DO X g W a wa) (hb : DO X g W b wb) (hs : PlainIx b) : DO X g W (.Subscript a b pos) (wE r (w2 wa wb)) :=
  PE.weak (pe_ix hr ha hb hs) fun σ H Q h => lifts_2 (lifts_E h)

/-! ### displays -/
/-- the values, the names among them let go (their lists are from now on not owned) -/
def toVal (ρ : Env) (o : Opd) (k : Nat → D → Env → Prop) : Prop := match o with
  | .tm n d => k n d ρ
  | .rf i => match ρ[i]? with
    | some (some (n, d)) => k 0 d (ρ.set i (some (0, d)))
    | _ => False
def toVals : Env → List Opd → (List (Nat × D) → Env → Prop) → Prop
  | ρ, [], k => k [] ρ
  | ρ, o :: os, k => toVal ρ o fun n d ρ' => toVals ρ' os fun ds ρ'' => k ((n, d) :: ds) ρ''
abbrev nds (l : List (Nat × D)) : Env := l.map some
section
variable {M0 : Addr → Prop} {H : Hp} {σ : St}
theorem S.vals : ∀ {os : List Opd} {ρ : Env} {vs : List V} {T T0 : St} {TD TD0 : Env} {F : List Addr} {k : List (Nat × D) → Env → Prop}, S g M0 H (σ ++ (T0 ++ T)) (ρ ++ (TD0 ++ TD)) F → σ.length = ρ.length → T0.length = TD0.length → OpsAt σ os vs T TD → toVals ρ os k →
    ∃ ds ρ' F', k ds ρ' ∧ S g M0 H (σ ++ (T0 ++ vs.map some)) (ρ' ++ (TD0 ++ nds ds)) F' ∧ σ.length = ρ'.length ∧ ds.length = os.length ∧ Tr H F H F'
  | [], ρ, _, _, _, _, TD0, F, k, s, l, _, ⟨rfl, rfl, rfl⟩, h => ⟨[], ρ, F, h, s, l, rfl, Tr.refl⟩
  | .rf i :: os, ρ, _, T, T0, TD, TD0, F, k, s, l, l0, hh, h => by
    obtain ⟨v, r, rfl, hv, ho⟩ := hh
    have h1 : (match ρ[i]? with
      | some (some (n, d)) => toVals (ρ.set i (some (0, d))) os fun ds ρ'' => k ((0, d) :: ds) ρ''
      | _ => False) := h
    cases e : ρ[i]? with
    | none => rw [e] at h1; exact h1.elim
    | some sl =>
      cases sl with
      | none => rw [e] at h1; exact h1.elim
      | some p =>
        obtain ⟨n, d⟩ := p
        rw [e] at h1
        have hi : i < ρ.length := (List.getElem?_eq_some_iff.mp e).1
        obtain ⟨F1, s1, t1⟩ := s.down (i := i) (n := n) (d := d) (m := 0) (by rw [List.getElem?_append_left hi, e]) (Nat.zero_le _)
        rw [List.set_append_left _ _ hi] at s1
        have l1 : σ.length = (ρ.set i (some (0, d))).length := by rw [List.length_set]; exact l
        obtain ⟨u, Fi, hu, _, ow⟩ := s1.env.at (i := i) (n := 0) (d := d) (by rw [List.getElem?_append_left (by rw [← l1, l]; exact hi), List.getElem?_set_self hi])
        rw [List.getElem?_append_left (by rw [l]; exact hi), hv] at hu
        cases hu
        -- the value laid as one more temporary, ahead of the rest
        obtain ⟨Fa, Fb, rfl, ea, eb⟩ := s1.env.app l1
        obtain ⟨Fc, Fd, rfl, ec, ed⟩ := eb.app l0
        have en : EnvR g H (fun a => M0 a ∨ a ∈ Fa ++ (Fc ++ Fd)) [some (0, d)] [some v] [] := ⟨v, [], [], [], rfl, rfl, ow_zero.mpr ⟨rfl, (ow_zero.mp ow).2⟩, rfl, rfl⟩
        have s2 : S g M0 H (σ ++ ((T0 ++ [some v]) ++ T)) (ρ.set i (some (0, d)) ++ ((TD0 ++ [some (0, d)]) ++ TD)) (Fa ++ (Fc ++ Fd)) := by
          have q := ea.append ((ec.append en).append ed)
          rw [List.append_nil] at q
          exact ⟨q, s1.nd, s1.dj, s1.tk⟩
        obtain ⟨ds, ρ', F', hk, s3, l3, l4, t3⟩ := S.vals s2 l1 (by simp [l0]) ho h1
        refine ⟨(0, d) :: ds, ρ', F', hk, ?_, l3, by simp [l4], t1.trans t3⟩
        simpa using s3
  | .tm n d :: os, ρ, _, _, T0, _, TD0, F, k, s, l, l0, hh, h => by
    obtain ⟨v, r, T', TD', rfl, rfl, rfl, ho⟩ := hh
    have h1 : toVals ρ os fun ds ρ'' => k ((n, d) :: ds) ρ'' := h
    have s2 : S g M0 H (σ ++ ((T0 ++ [some v]) ++ T')) (ρ ++ ((TD0 ++ [some (n, d)]) ++ TD')) F := by simpa using s
    obtain ⟨ds, ρ', F', hk, s3, l3, l4, t3⟩ := S.vals s2 l (by simp [l0]) ho h1
    refine ⟨(n, d) :: ds, ρ', F', hk, ?_, l3, by simp [l4], t3⟩
    simpa using s3
end
/-- a tuple of values: what they own is let go -/
def wTup (wa : WOs) : WO := fun ρ Q E => wa ρ (fun os ρ' => toVals ρ' os fun ds ρ'' => os.length ≤ 1000 ∧ Q (.tm 0 (.tup (ds.map (·.2)))) ρ'') E
/-- a list; its items let go -/
def wLst (wa : WOs) : WO := fun ρ Q E => wa ρ (fun os ρ' => toVals ρ' os fun ds ρ'' => os.length ≤ 1000 ∧ Q (.tm 1 (.lst (ds.map (·.2)))) ρ'') E
/-- temporaries that own nothing more -/
theorem S.shl {M0 : Addr → Prop} {H : Hp} {σ : St} : ∀ {ds : List (Nat × D)} {ρ : Env} {vs : List V} {T0 : St} {TD0 : Env} {F : List Addr}, S g M0 H (σ ++ (T0 ++ vs.map some)) (ρ ++ (TD0 ++ nds ds)) F → σ.length = ρ.length → T0.length = TD0.length → vs.length = ds.length →
    ∃ F', S g M0 H (σ ++ (T0 ++ vs.map some)) (ρ ++ (TD0 ++ nds (ds.map fun p => (0, p.2)))) F' ∧ Tr H F H F'
  | [], ρ, vs, T0, TD0, F, s, l, l0, lv => ⟨F, s, Tr.refl⟩
  | (n, d) :: ds, ρ, [], _, _, _, _, _, _, lv => by cases lv
  | (n, d) :: ds, ρ, v :: vs, T0, TD0, F, s, l, l0, lv => by
    have ix : (ρ ++ (TD0 ++ nds ((n, d) :: ds)))[ρ.length + TD0.length]? = some (some (n, d)) := by
      rw [List.getElem?_append_right (by omega), List.getElem?_append_right (by omega)]
      simp
    obtain ⟨F1, s1, t1⟩ := s.down (m := 0) ix (Nat.zero_le _)
    have es : (ρ ++ (TD0 ++ nds ((n, d) :: ds))).set (ρ.length + TD0.length) (some (0, d)) = ρ ++ ((TD0 ++ [some (0, d)]) ++ nds ds) := by
      rw [List.set_append_right _ _ (by omega), List.set_append_right _ _ (by omega)]
      simp
    have ev : σ ++ (T0 ++ (v :: vs).map some) = σ ++ ((T0 ++ [some v]) ++ vs.map some) := by simp
    rw [es, ev] at s1
    obtain ⟨F2, s2, t2⟩ := S.shl s1 l (by simp [l0]) (by simpa using lv)
    exact ⟨F2, by simpa using s2, t1.trans t2⟩
theorem envR_shl {M : Addr → Prop} {H : Hp} : ∀ {ds : List (Nat × D)} {vs : List V} {F : List Addr}, EnvR g H M (nds (ds.map fun p => (0, p.2))) (vs.map some) F → ShL g H M (ds.map (·.2)) vs
  | [], [], _, _ => rfl
  | [], v :: vs, _, h => by cases h.1
  | (n, d) :: ds, [], _, h => by obtain ⟨v, r, F1, F2, e, _⟩ := h; cases e
  | (n, d) :: ds, v :: vs, _, h => by
    obtain ⟨v', r, F1, F2, e, _, ow, h2⟩ := h
    injection e with e1 e2
    cases e1
    rw [← e2] at h2
    exact ⟨v, vs, rfl, (ow_zero.mp ow).2, envR_shl h2⟩
/-- displayed items: a state, and how they stand -/
theorem disp {M0 : Addr → Prop} {H : Hp} {σ : St} {os : List Opd} {ρ : Env} {vs : List V} {T : St} {TD : Env} {F : List Addr} {k : List (Nat × D) → Env → Prop} (s : S g M0 H (σ ++ T) (ρ ++ TD) F) (l : σ.length = ρ.length) (ho : OpsAt σ os vs T TD) (h : toVals ρ os k) :
    ∃ ds ρ' F' T' TD', k ds ρ' ∧ S g M0 H (σ ++ T') (ρ' ++ TD') F' ∧ σ.length = ρ'.length ∧ Tr H F H F' ∧ ShL g H (fun a => M0 a ∨ a ∈ F') (ds.map (·.2)) vs := by
  obtain ⟨ds, ρ', F1, hk, s1, l1, l2, t1⟩ := S.vals (T0 := []) (TD0 := []) (by simpa using s) l rfl ho h
  obtain ⟨F2, s2, t2⟩ := S.shl (T0 := []) (TD0 := []) s1 l1 rfl (by rw [l2, ho.lenv])
  obtain ⟨Fa, Fb, rfl, ea, eb⟩ := s2.env.app l1
  exact ⟨ds, ρ', _, _, _, hk, s2, l1, t1.trans t2, envR_shl eb⟩
theorem small_os {n : Nat} (h : n ≤ 1000) : n ≤ sizeLine := Nat.le_of_lt (small1000 h)
theorem do_tup {k : Nat} (ha : DOs X g W es wr) : DO X g W (.Tuple es k pos) (wTup wr) := PE.weak (pe_tup ha) fun σ H Q h => by
  obtain ⟨M0, ρ, F, Qd, Ed, s, hw, kk, lk⟩ := h
  refine ⟨M0, ρ, F, _, Ed, s, hw, fun os ρ1 vs H1 F1 T TD hq ho s1 l1 t1 => ?_, lk⟩
  obtain ⟨ds, ρ2, F2, T2, TD2, ⟨hz, hd⟩, s2, l2, t2, sh⟩ := disp s1 l1 ho hq
  refine ⟨by rw [ho.lenv]; exact small_os hz, fun p hp => ?_⟩
  obtain ⟨F3, s3, t3⟩ := S.res s2 l2 (NewV.tup (fun a z => z.elim (s2.tk a) (s2.tracked a)) sh hp)
  exact kk _ ρ2 _ _ F3 [some (.ref p)] [some (0, _)] hd ⟨_, [], [], [], rfl, rfl, rfl, rfl, rfl, rfl⟩ s3 l2 ((t1.trans t2).trans t3)
theorem do_lst (ha : DOs X g W es wr) : DO X g W (.List es pos) (wLst wr) := PE.weak (pe_lst ha) fun σ H Q h => by
  obtain ⟨M0, ρ, F, Qd, Ed, s, hw, kk, lk⟩ := h
  refine ⟨M0, ρ, F, _, Ed, s, hw, fun os ρ1 vs H1 F1 T TD hq ho s1 l1 t1 => ?_, lk⟩
  obtain ⟨ds, ρ2, F2, T2, TD2, ⟨hz, hd⟩, s2, l2, t2, sh⟩ := disp s1 l1 ho hq
  refine ⟨by rw [ho.lenv]; exact small_os hz, fun p hp => ?_⟩
  obtain ⟨F3, s3, t3⟩ := S.res s2 l2 (NewV.lst (fun a z => z.elim (s2.tk a) (s2.tracked a)) sh hp)
  exact kk _ ρ2 _ _ F3 [some (.ref p)] [some (1, _)] hd ⟨_, [], [], [], rfl, rfl, rfl, rfl, rfl, rfl⟩ s3 l2 ((t1.trans t2).trans t3)

/-! ### tests, and, or, not, if-else -/
/-- a value's truth -/
def truD : D → Option Bool
  | .non => some false
  | .bl b => some b
  | .int i => some (decide (i ≠ 0))
  | .lst ds => some (!ds.isEmpty)
  | .tup ds => some (!ds.isEmpty)
  | _ => none
def wTru (wa : WO) : WT := fun ρ Q E => wa ρ (fun o ρ' => opnv ρ' o fun d => match truD d with
  | some b => Q b ρ'
  | none => False) E
theorem isEmpty_sh {H : Hp} {M : Addr → Prop} {ds : List D} {vs : List V} (h : ShL g H M ds vs) : vs.isEmpty = ds.isEmpty := by
  cases shL_iff.mp h <;> rfl
theorem truV {H : Hp} {d : D} {v : V} {b : Bool} (h : Sh g H (fun _ => False) d v) (e : truD d = some b) : TruV g.K v H b := by
  cases d with
  | non => cases h; cases e; rfl
  | bl b => cases h; cases e; rfl
  | int i =>
    cases h
    have e' : decide (i ≠ 0) = b := Option.some.inj e
    show b = (i != 0)
    rw [← e']
    by_cases hi : i = 0 <;> simp [hi]
  | lst ds =>
    obtain ⟨a, vs, rfl, t, r⟩ := h
    cases e
    exact .inl ⟨vs, t.sq, by rw [isEmpty_sh r]⟩
  | tup ds =>
    obtain ⟨a, vs, rfl, t, r⟩ := h
    cases e
    exact .inr (.inl ⟨vs, t.sq, by rw [isEmpty_sh r]⟩)
  | _ => cases e
theorem opnv_one {M0 : Addr → Prop} {H : Hp} {σ : St} {o : Opd} {ρ : Env} {v : V} {T : St} {TD : Env} {F : List Addr} {k : D → Prop} (s : S g M0 H (σ ++ T) (ρ ++ TD) F) (l : σ.length = ρ.length) (ho : OpsAt σ [o] [v] T TD) (h : opnv ρ o k) :
    ∃ d, k d ∧ Sh g H (fun _ => False) d v := by
  obtain ⟨ds, hk, P⟩ := S.sees (Tx := []) (TDx := []) (T0 := []) (TD0 := []) (k := fun ds => ∃ d, ds = [d] ∧ k d) (os := [o]) (by simpa using s) l rfl ho (by
    show opnv ρ o fun d => ∃ d', [d] = [d'] ∧ k d'
    cases o with
    | tm n d => exact ⟨d, rfl, h⟩
    | rf i =>
      show (match ρ[i]? with
        | some (some (_, d)) => ∃ d', [d] = [d'] ∧ k d'
        | _ => False)
      have h1 : (match ρ[i]? with
        | some (some (_, d)) => k d
        | _ => False) := h
      revert h1
      cases ρ[i]? with
      | none => exact fun z => z
      | some sl =>
        cases sl with
        | none => exact fun z => z
        | some p => exact fun z => ⟨_, rfl, z⟩)
  obtain ⟨d, rfl, hd⟩ := hk
  cases P with
  | cons h1 h2 => exact ⟨d, hd, h1⟩
theorem dt_val (ha : DO X g W a wa) (hK : g.K = X.K) (he : ∀ whole, isTrue a X.env whole = (do let v ← whole; standAt a.pos; holding [v] (truthy v)) := by intro _; rfl) : DT X g W a (wTru wa) := PT.weak (pt_truth ha he) fun σ H Q h => by
  obtain ⟨M0, ρ, F, Qd, Ed, s, hw, kk, lk⟩ := h
  refine ⟨M0, ρ, F, _, Ed, s, hw, fun o ρ1 v H1 F1 T TD hq ho s1 l1 t1 => ?_, lk⟩
  obtain ⟨d, hd, sh⟩ := opnv_one s1 l1 ho hq
  cases e : truD d with
  | none => rw [e] at hd; exact hd.elim
  | some b =>
    rw [e] at hd
    obtain ⟨F2, s2, t2⟩ := s1.letgo l1
    exact ⟨b, by rw [← hK]; exact truV sh e, kk b ρ1 H1 F2 hd s2 (t1.trans t2)⟩
/-- a comparison as a test: its own rule -/
def wB (w : WO) : WT := fun ρ Q E => w ρ (fun o ρ' => match o with
  | .tm _ (.bl b) => Q b ρ'
  | _ => False) E
theorem dt_cmp {op : CmpOp} {r : RV} (ho : OpV X g (compareOp op) r) (ha : DO X g W a wa) (hb : DO X g W b wb) (hm : behindInMarks op b = false) : DT X g W (.Compare a [op] [b] pos) (wB (wS r (w2 wa wb))) := PT.weak (pt_cmpR ho ha hb hm) fun σ H Q h => by
  obtain ⟨M0, ρ, F, Qd, Ed, s, hw, kk, lk⟩ := h
  have h2 : liftO g W (wS r (w2 wa wb)) σ H (fun x H' => ∃ k, x = .bl k ∧ Q k H') := ⟨M0, ρ, F, _, Ed, s, hw, fun o ρ1 v H1 F1 T TD hq hop s1 l1 t1 => by
    match o, hq, hop with
    | .tm n (.bl b), hq, hop =>
      obtain ⟨v', r', T', TD', e1, rfl, rfl, hn⟩ := hop
      obtain ⟨rfl, rfl, rfl⟩ := hn
      injection e1 with e1 _
      obtain ⟨u, Fi, hu, _, ow⟩ := s1.env.at (i := σ.length) (n := n) (d := .bl b) (by rw [List.getElem?_append_right (by omega)]; simp [l1])
      rw [List.getElem?_append_right (Nat.le_refl _)] at hu
      simp at hu
      subst hu
      have e2 : v' = .bl b := by cases n <;> exact ow.2
      obtain ⟨F2, s2, t2⟩ := s1.letgo l1
      exact ⟨b, by rw [e1, e2], kk b ρ1 H1 F2 hq s2 (t1.trans t2)⟩, lk⟩
  exact lifts_2 (lifts_V h2)
def wAndT (u v : WT) : WT := fun ρ Q E => u ρ (fun c ρ' => if c = true then v ρ' Q E else Q false ρ') E
def wOrT (u v : WT) : WT := fun ρ Q E => u ρ (fun c ρ' => if c = true then Q true ρ' else v ρ' Q E) E
def wNotT (u : WT) : WT := fun ρ Q E => u ρ (fun c ρ' => Q (!c) ρ') E
theorem liftT_and {u v : WT} {σ : St} {H : Hp} {Q : Bool → Hp → Prop} (h : liftT g W (wAndT u v) σ H Q) : tAnd (liftT g W u) (liftT g W v) σ H Q := by
  obtain ⟨M0, ρ, F, Qd, Ed, s, hw, kk, lk⟩ := h
  refine ⟨M0, ρ, F, _, Ed, s, hw, fun c ρ1 H1 F1 hq s1 t1 => ?_, lk⟩
  cases c with
  | true => exact iteT ⟨M0, ρ1, F1, _, Ed, s1, (by simpa using hq), fun b ρ2 H2 F2 hq2 s2 t2 => kk b ρ2 H2 F2 hq2 s2 (t1.trans t2), lk.step t1⟩
  | false => exact iteF (kk false ρ1 H1 F1 (by simpa using hq) s1 t1)
theorem liftT_or {u v : WT} {σ : St} {H : Hp} {Q : Bool → Hp → Prop} (h : liftT g W (wOrT u v) σ H Q) : tOr (liftT g W u) (liftT g W v) σ H Q := by
  obtain ⟨M0, ρ, F, Qd, Ed, s, hw, kk, lk⟩ := h
  refine ⟨M0, ρ, F, _, Ed, s, hw, fun c ρ1 H1 F1 hq s1 t1 => ?_, lk⟩
  cases c with
  | false => exact iteF ⟨M0, ρ1, F1, _, Ed, s1, (by simpa using hq), fun b ρ2 H2 F2 hq2 s2 t2 => kk b ρ2 H2 F2 hq2 s2 (t1.trans t2), lk.step t1⟩
  | true => exact iteT (kk true ρ1 H1 F1 (by simpa using hq) s1 t1)
def DW (X : Cx) (g : G) (W : WX) (e : Expr) (w : WT) : Prop := PW X e (liftT g W w)
variable {u v : WT} {rest : List Expr}
theorem PW.weak {X : Cx} {e : Expr} {t t' : TT} (h : PW X e t) (w : ∀ σ H Q, t' σ H Q → t σ H Q) : PW X e t' := ⟨fun wh pins s σ H Q I q => h.run wh pins s σ H Q I (w _ _ _ q)⟩
theorem DW.dt (h : DW X g W e u) : DT X g W e u := L2.PW.pt h
theorem dw_and1 (ha : DT X g W a u) : DW X g W (.BoolOp .And [a] pos) u := pw_and1 ha
theorem dw_or1 (ha : DT X g W a u) : DW X g W (.BoolOp .Or [a] pos) u := pw_or1 ha
theorem dw_and (ha : DT X g W a u) (hb : DW X g W (.BoolOp .And (b :: rest) pos) v) : DW X g W (.BoolOp .And (a :: b :: rest) pos) (wAndT u v) := PW.weak (pw_and ha hb) fun σ H Q h => liftT_and h
theorem dw_or (ha : DT X g W a u) (hb : DW X g W (.BoolOp .Or (b :: rest) pos) v) : DW X g W (.BoolOp .Or (a :: b :: rest) pos) (wOrT u v) := PW.weak (pw_or ha hb) fun σ H Q h => liftT_or h
theorem dt_not (ha : DT X g W a u) : DT X g W (.UnaryOp .Not a pos) (wNotT u) := PT.weak (pt_not ha) fun σ H Q h => by
  obtain ⟨M0, ρ, F, Qd, Ed, s, hw, kk, lk⟩ := h
  exact ⟨M0, ρ, F, _, Ed, s, hw, fun c ρ1 H1 F1 hq s1 t1 => kk (!c) ρ1 H1 F1 hq s1 t1, lk⟩
/-- a and b as a value: all but the last a bool -/
def wAnd (wa wb : WO) : WO := fun ρ Q E => wa ρ (fun o ρ' => opnv ρ' o fun d => match d with
  | .bl c => if c = true then wb ρ' Q E else Q (.tm 0 (.bl false)) ρ'
  | _ => False) E
def wOr (wa wb : WO) : WO := fun ρ Q E => wa ρ (fun o ρ' => opnv ρ' o fun d => match d with
  | .bl c => if c = true then Q (.tm 0 (.bl true)) ρ' else wb ρ' Q E
  | _ => False) E
def wNot (wa : WO) : WO := fun ρ Q E => wa ρ (fun o ρ' => opnv ρ' o fun d => match d with
  | .bl c => Q (.tm 0 (.bl (!c))) ρ'
  | _ => False) E
/-- a bool's operand -/
theorem bool_op {M0 : Addr → Prop} {H : Hp} {σ : St} {o : Opd} {ρ : Env} {v : V} {T : St} {TD : Env} {F : List Addr} {k : Bool → Prop} (s : S g M0 H (σ ++ T) (ρ ++ TD) F) (l : σ.length = ρ.length) (ho : OpsAt σ [o] [v] T TD) (h : opnv ρ o fun d => match d with
    | .bl c => k c
    | _ => False) : ∃ c, v = .bl c ∧ k c := by
  obtain ⟨d, hd, sh⟩ := opnv_one s l ho h
  cases d with
  | bl c => exact ⟨c, sh, hd⟩
  | _ => exact hd.elim
theorem do_and (ha : DO X g W a wa) (hb : DO X g W (.BoolOp .And (b :: rest) pos) wb) : DO X g W (.BoolOp .And (a :: b :: rest) pos) (wAnd wa wb) := PE.weak (pe_and ha hb) fun σ H Q h => by
  obtain ⟨M0, ρ, F, Qd, Ed, s, hw, kk, lk⟩ := h
  refine ⟨M0, ρ, F, _, Ed, s, hw, fun o ρ1 v H1 F1 T TD hq ho s1 l1 t1 => ?_, lk⟩
  obtain ⟨c, rfl, hc⟩ := bool_op s1 l1 ho hq
  obtain ⟨F2, s2, t2⟩ := s1.letgo l1
  refine ⟨c, rfl, ?_⟩
  cases c with
  | true => exact iteT ⟨M0, ρ1, F2, _, Ed, s2, (by simpa using hc), fun o ρ3 v H3 F3 T3 TD3 hq3 ho3 s3 l3 t3 => kk o ρ3 v H3 F3 T3 TD3 hq3 ho3 s3 l3 ((t1.trans t2).trans t3), lk.step (t1.trans t2)⟩
  | false => exact iteF (lift_sc (d := .bl false) rfl ⟨M0, ρ1, F2, _, Ed, s2, (by simpa [wC] using hc), fun o ρ3 v H3 F3 T3 TD3 hq3 ho3 s3 l3 t3 => kk o ρ3 v H3 F3 T3 TD3 hq3 ho3 s3 l3 ((t1.trans t2).trans t3), lk.step (t1.trans t2)⟩)
theorem do_or (ha : DO X g W a wa) (hb : DO X g W (.BoolOp .Or (b :: rest) pos) wb) : DO X g W (.BoolOp .Or (a :: b :: rest) pos) (wOr wa wb) := PE.weak (pe_or ha hb) fun σ H Q h => by
  obtain ⟨M0, ρ, F, Qd, Ed, s, hw, kk, lk⟩ := h
  refine ⟨M0, ρ, F, _, Ed, s, hw, fun o ρ1 v H1 F1 T TD hq ho s1 l1 t1 => ?_, lk⟩
  obtain ⟨c, rfl, hc⟩ := bool_op s1 l1 ho hq
  obtain ⟨F2, s2, t2⟩ := s1.letgo l1
  refine ⟨c, rfl, ?_⟩
  cases c with
  | false => exact iteF ⟨M0, ρ1, F2, _, Ed, s2, (by simpa using hc), fun o ρ3 v H3 F3 T3 TD3 hq3 ho3 s3 l3 t3 => kk o ρ3 v H3 F3 T3 TD3 hq3 ho3 s3 l3 ((t1.trans t2).trans t3), lk.step (t1.trans t2)⟩
  | true => exact iteT (lift_sc (d := .bl true) rfl ⟨M0, ρ1, F2, _, Ed, s2, (by simpa [wC] using hc), fun o ρ3 v H3 F3 T3 TD3 hq3 ho3 s3 l3 t3 => kk o ρ3 v H3 F3 T3 TD3 hq3 ho3 s3 l3 ((t1.trans t2).trans t3), lk.step (t1.trans t2)⟩)
theorem do_one {op : BoolOp} (ha : DO X g W a wa) : DO X g W (.BoolOp op [a] pos) wa := pe_one ha
theorem do_not (ha : DO X g W a wa) : DO X g W (.UnaryOp .Not a pos) (wNot wa) := PE.weak (pe_not ha) fun σ H Q h => by
  obtain ⟨M0, ρ, F, Qd, Ed, s, hw, kk, lk⟩ := h
  refine ⟨M0, ρ, F, _, Ed, s, hw, fun o ρ1 v H1 F1 T TD hq ho s1 l1 t1 => ?_, lk⟩
  obtain ⟨c, rfl, hc⟩ := bool_op s1 l1 ho hq
  obtain ⟨F2, s2, t2⟩ := s1.letgo l1
  exact ⟨c, rfl, lift_sc (W := W) (d := .bl (!c)) rfl ⟨M0, ρ1, F2, _, Ed, s2, hc, fun o ρ3 v H3 F3 T3 TD3 hq3 ho3 s3 l3 t3 => kk o ρ3 v H3 F3 T3 TD3 hq3 ho3 s3 l3 ((t1.trans t2).trans t3), lk.step (t1.trans t2)⟩⟩
def wIf (u : WT) (wa wb : WO) : WO := fun ρ Q E => u ρ (fun c ρ' => if c = true then wa ρ' Q E else wb ρ' Q E) E
theorem do_ifExp {c : Expr} (hc : DT X g W c u) (ha : DO X g W a wa) (hb : DO X g W b wb) : DO X g W (.IfExp c a b pos) (wIf u wa wb) := PE.weak (pe_ifExp hc ha hb) fun σ H Q h => by
  obtain ⟨M0, ρ, F, Qd, Ed, s, hw, kk, lk⟩ := h
  refine ⟨M0, ρ, F, _, Ed, s, hw, fun c ρ1 H1 F1 hq s1 t1 => ?_, lk⟩
  cases c with
  | true => exact iteT ⟨M0, ρ1, F1, _, Ed, s1, (by simpa using hq), fun o ρ3 v H3 F3 T3 TD3 hq3 ho3 s3 l3 t3 => kk o ρ3 v H3 F3 T3 TD3 hq3 ho3 s3 l3 (t1.trans t3), lk.step t1⟩
  | false => exact iteF ⟨M0, ρ1, F1, _, Ed, s1, (by simpa using hq), fun o ρ3 v H3 F3 T3 TD3 hq3 ho3 s3 l3 t3 => kk o ρ3 v H3 F3 T3 TD3 hq3 ho3 s3 l3 (t1.trans t3), lk.step t1⟩
end
end Z

set_option Elab.async false
set_option linter.all false
set_option maxRecDepth 100000
set_option maxHeartbeats 4000000
/-! Dp5: the operations. -/
namespace Z
open PySem PySem.Spec PyProof.Rows L2
abbrev gX (X : Cx) (xa : Option (Addr × Addr)) : G := ⟨X.K, xa⟩
abbrev big : Nat := 1000000
theorem big_line {n : Nat} (h : n ≤ big) : n ≤ sizeLine := Nat.le_trans h (by rw [sizeLine_eq]; decide)
theorem big_lt {n : Nat} (h : n ≤ big) : n < sizeLine := Nat.lt_of_le_of_lt h (by rw [sizeLine_eq]; decide)
def on1 (f : D → (Nat → D → Prop) → Prop) : RE := fun ds k => match ds with
  | [a] => f a k
  | _ => False
def on2 (f : D → D → (Nat → D → Prop) → Prop) : RE := fun ds k => match ds with
  | [a, b] => f a b k
  | _ => False
def on1V (f : D → (D → Prop) → Prop) : RV := fun ds k => match ds with
  | [a] => f a k
  | _ => False
def on2V (f : D → D → (D → Prop) → Prop) : RV := fun ds k => match ds with
  | [a, b] => f a b k
  | _ => False
section
variable {X : Cx} {xa : Option (Addr × Addr)} {g : G} {H : Hp} {Q : VK} {vs : List V} {x y : V}
theorem rdE1 {f : D → (Nat → D → Prop) → Prop} (h : RdE g (on1 f) vs H Q) : ∃ M d x Qd, vs = [x] ∧ (∀ a, M a → H a ≠ none) ∧ El g H M d x ∧ f d Qd ∧ ∀ n d v H', Qd n d → NewV g H M n d v H' → Q v H' := by
  obtain ⟨M, ds, Qd, hm, P, hr, k⟩ := h
  match ds, P, hr with
  | [a], .cons h1 .nil, hr => exact ⟨M, a, _, Qd, rfl, hm, h1, hr, k⟩
theorem rdE2 {f : D → D → (Nat → D → Prop) → Prop} (h : RdE g (on2 f) vs H Q) : ∃ M d e x y Qd, vs = [x, y] ∧ (∀ a, M a → H a ≠ none) ∧ El g H M d x ∧ El g H M e y ∧ f d e Qd ∧ ∀ n d v H', Qd n d → NewV g H M n d v H' → Q v H' := by
  obtain ⟨M, ds, Qd, hm, P, hr, k⟩ := h
  match ds, P, hr with
  | [a, b], .cons h1 (.cons h2 .nil), hr => exact ⟨M, a, b, _, _, Qd, rfl, hm, h1, h2, hr, k⟩
theorem rdV1 {f : D → (D → Prop) → Prop} (h : RdV g (on1V f) vs H Q) : ∃ d x Qd, vs = [x] ∧ Sh g H (fun _ => False) d x ∧ f d Qd ∧ ∀ d v, Qd d → scV d = some v → Q v H := by
  obtain ⟨ds, Qd, P, hr, k⟩ := h
  match ds, P, hr with
  | [a], .cons h1 .nil, hr => exact ⟨a, _, Qd, rfl, h1, hr, k⟩
theorem rdV2 {f : D → D → (D → Prop) → Prop} (h : RdV g (on2V f) vs H Q) : ∃ d e x y Qd, vs = [x, y] ∧ Sh g H (fun _ => False) d x ∧ Sh g H (fun _ => False) e y ∧ f d e Qd ∧ ∀ d v, Qd d → scV d = some v → Q v H := by
  obtain ⟨ds, Qd, P, hr, k⟩ := h
  match ds, P, hr with
  | [a, b], .cons h1 (.cons h2 .nil), hr => exact ⟨a, b, _, _, Qd, rfl, h1, h2, hr, k⟩
theorem shl_len {M : Addr → Prop} {ds : List D} {vs : List V} (h : ShL g H M ds vs) : ds.length = vs.length := (shL_iff.mp h).length
theorem shl_append {M : Addr → Prop} : ∀ {ds es : List D} {vs us : List V}, ShL g H M ds vs → ShL g H M es us → ShL g H M (ds ++ es) (vs ++ us)
  | [], _, _, _, rfl, h => h
  | d :: ds, _, _, _, ⟨v, r, rfl, a, b⟩, h => ⟨v, _, rfl, a, shl_append b h⟩
theorem shl_get {M : Addr → Prop} : ∀ {ds : List D} {vs : List V} {i : Nat} {d : D}, ShL g H M ds vs → ds[i]? = some d → ∃ v, vs[i]? = some v ∧ Sh g H M d v
  | [], _, _, _, _, e => by simp at e
  | d :: ds, _, 0, d', ⟨v, r, rfl, a, b⟩, e => by
    have e' : d = d' := by simpa using e
    subst e'
    exact ⟨v, rfl, a⟩
  | d :: ds, _, i + 1, _, ⟨v, r, rfl, a, b⟩, e => by
    obtain ⟨u, h1, h2⟩ := shl_get b (by simpa using e)
    exact ⟨u, by simpa using h1, h2⟩
theorem shl_drop {M : Addr → Prop} : ∀ {ds : List D} {vs : List V} (n : Nat), ShL g H M ds vs → ShL g H M (ds.drop n) (vs.drop n)
  | _, _, 0, h => h
  | [], _, _ + 1, rfl => rfl
  | d :: ds, _, n + 1, ⟨v, r, rfl, a, b⟩ => shl_drop n b
theorem shl_take {M : Addr → Prop} : ∀ {ds : List D} {vs : List V} (n : Nat), ShL g H M ds vs → ShL g H M (ds.take n) (vs.take n)
  | _, _, 0, h => rfl
  | [], _, _ + 1, rfl => rfl
  | d :: ds, _, n + 1, ⟨v, r, rfl, a, b⟩ => ⟨v, _, rfl, a, shl_take n b⟩
theorem shl_rep {M : Addr → Prop} {ds : List D} {vs : List V} (h : ShL g H M ds vs) : ∀ k : Nat, ShL g H M (List.replicate k ds).flatten (List.replicate k vs).flatten
  | 0 => rfl
  | k + 1 => by
    rw [List.replicate_succ, List.replicate_succ, List.flatten_cons, List.flatten_cons]
    exact shl_append h (shl_rep h k)
theorem shl_rev {M : Addr → Prop} : ∀ {ds : List D} {vs : List V}, ShL g H M ds vs → ShL g H M ds.reverse vs.reverse
  | [], _, rfl => rfl
  | d :: ds, _, ⟨v, r, rfl, a, b⟩ => by
    rw [List.reverse_cons, List.reverse_cons]
    exact shl_append (shl_rev b) ⟨v, [], rfl, a, rfl⟩
theorem shl_ints {M : Addr → Prop} : ∀ {l : List Int} {vs : List V}, ShL g H M (l.map D.int) vs ↔ vs = l.map V.int
  | [], _ => Iff.rfl
  | i :: l, vs => ⟨fun ⟨v, r, e, a, b⟩ => by
      obtain rfl : v = V.int i := a
      rw [e, shl_ints.mp b]; rfl, fun e => ⟨V.int i, l.map V.int, e, rfl, shl_ints.mpr rfl⟩⟩
theorem shl_bls {M : Addr → Prop} : ∀ {l : List Bool} {vs : List V}, ShL g H M (l.map D.bl) vs ↔ vs = l.map V.bl
  | [], _ => Iff.rfl
  | i :: l, vs => ⟨fun ⟨v, r, e, a, b⟩ => by
      obtain rfl : v = V.bl i := a
      rw [e, shl_bls.mp b]; rfl, fun e => ⟨V.bl i, l.map V.bl, e, rfl, shl_bls.mpr rfl⟩⟩
/-- ints of data -/
def ints? : List D → Option (List Int)
  | [] => some []
  | .int i :: r => (ints? r).map (i :: ·)
  | _ :: _ => none
theorem ints?_eq : ∀ {ds : List D} {l : List Int}, ints? ds = some l → ds = l.map D.int
  | [], l, h => by cases h; rfl
  | .int i :: r, l, h => by
    obtain ⟨l', h1, rfl⟩ := Option.map_eq_some_iff.mp h
    rw [ints?_eq h1]; rfl
  | .non :: _, _, h => nomatch h
  | .bl _ :: _, _, h => nomatch h
  | .str _ :: _, _, h => nomatch h
  | .ty _ :: _, _, h => nomatch h
  | .cls _ :: _, _, h => nomatch h
  | .tup _ :: _, _, h => nomatch h
  | .scr _ :: _, _, h => nomatch h
  | .lst _ :: _, _, h => nomatch h
  | .ins _ _ _ :: _, _, h => nomatch h
  | .xr _ _ _ :: _, _, h => nomatch h
@[simp] theorem ints?_map (l : List Int) : ints? (l.map D.int) = some l := by
  induction l with
  | nil => rfl
  | cons a l ih => show (ints? (l.map D.int)).map _ = _; rw [ih]; rfl
def bls? : List D → Option (List Bool)
  | [] => some []
  | .bl i :: r => (bls? r).map (i :: ·)
  | _ :: _ => none
theorem bls?_eq : ∀ {ds : List D} {l : List Bool}, bls? ds = some l → ds = l.map D.bl
  | [], l, h => by cases h; rfl
  | .bl i :: r, l, h => by
    obtain ⟨l', h1, rfl⟩ := Option.map_eq_some_iff.mp h
    rw [bls?_eq h1]; rfl
  | .non :: _, _, h => nomatch h
  | .int _ :: _, _, h => nomatch h
  | .str _ :: _, _, h => nomatch h
  | .ty _ :: _, _, h => nomatch h
  | .cls _ :: _, _, h => nomatch h
  | .tup _ :: _, _, h => nomatch h
  | .scr _ :: _, _, h => nomatch h
  | .lst _ :: _, _, h => nomatch h
  | .ins _ _ _ :: _, _, h => nomatch h
  | .xr _ _ _ :: _, _, h => nomatch h
@[simp] theorem bls?_map (l : List Bool) : bls? (l.map D.bl) = some l := by
  induction l with
  | nil => rfl
  | cons a l ih => show (bls? (l.map D.bl)).map _ = _; rw [ih]; rfl

/-! ### arithmetic -/
/-- a + b -/
def addD : D → D → (Nat → D → Prop) → Prop
  | .int i, .int j, k => k 0 (.int (i + j))
  | .lst a, .lst b, k => a.length + b.length ≤ big ∧ k 1 (.lst (a ++ b))
  | .tup a, .tup b, k => a.length + b.length ≤ big ∧ k 0 (.tup (a ++ b))
  | _, _, _ => False
theorem op_addZ : OpE X (gX X xa) (binaryOp .Add) (on2 addD) := by
  intro pins s σ H x y v u Q I rx ry h
  obtain ⟨M, d, e, x', y', Qd, ev, hm, hx, hy, hr, k⟩ := rdE2 h
  injection ev with e1 e2
  injection e2 with e2 _
  subst e1 e2
  match d, e, hr, hx, hy with
  | .int i, .int j, hr, hx, hy =>
    obtain rfl : x = V.int i := hx
    obtain rfl : y = V.int j := hy
    exact op_add pins s σ H _ _ v u Q I rx ry ⟨i, j, rfl, rfl, k 0 _ _ H hr (NewV.sh rfl)⟩
  | .lst a, .lst b, ⟨hz, hr⟩, hx, hy =>
    obtain ⟨p, xs, rfl, sx, ex⟩ := hx
    obtain ⟨q, ys, rfl, sy, ey⟩ := hy
    exact op_cat pins s σ H _ _ v u Q I rx ry ⟨p, q, xs, ys, rfl, rfl, sx, sy, by rw [← shl_len ex, ← shl_len ey]; exact big_line hz, fun r hp => k 1 _ _ _ hr (NewV.lst hm (shl_append ex ey) hp)⟩
  | .tup a, .tup b, ⟨hz, hr⟩, hx, hy =>
    have hx' := hx
    have hy' := hy
    obtain ⟨p, xs, rfl, sx, ex⟩ := hx
    obtain ⟨q, ys, rfl, sy, ey⟩ := hy
    refine op_catA pins s σ H _ _ v u Q I rx ry ⟨p, q, xs, ys, rfl, rfl, sx.sq, sy.sq, by rw [← shl_len ex, ← shl_len ey]; exact big_line hz, fun e => ?_, fun _ e => ?_, fun _ _ r hp => k 0 _ _ _ hr (NewV.tup hm (shl_append ex ey) hp)⟩
    · have ea : a = [] := List.eq_nil_of_length_eq_zero (by rw [shl_len ex, e]; rfl)
      subst ea
      exact k 0 _ _ H hr (NewV.sh hy')
    · have eb : b = [] := List.eq_nil_of_length_eq_zero (by rw [shl_len ey, e]; rfl)
      subst eb
      rw [List.append_nil] at hr
      exact k 0 _ _ H hr (NewV.sh hx')
/-- ints alone -/
def intOp (C : Int → Int → Prop) (f : Int → Int → Int) : D → D → (Nat → D → Prop) → Prop
  | .int i, .int j, k => C i j ∧ k 0 (.int (f i j))
  | _, _, _ => False
theorem op_intZ {op : Operator} {C : Int → Int → Prop} {f : Int → Int → Int} (h0 : OpR X (binaryOp op) (rI C fun i j => .int (f i j))) : OpE X (gX X xa) (binaryOp op) (on2 (intOp C f)) := by
  intro pins s σ H x y v u Q I rx ry h
  obtain ⟨M, d, e, x', y', Qd, ev, hm, hx, hy, hr, k⟩ := rdE2 h
  injection ev with e1 e2
  injection e2 with e2 _
  subst e1 e2
  match d, e, hr, hx, hy with
  | .int i, .int j, hr, hx, hy =>
    obtain rfl : x = V.int i := hx
    obtain rfl : y = V.int j := hy
    exact h0 pins s σ H _ _ v u Q I rx ry ⟨i, j, rfl, rfl, hr.1, k 0 _ _ H hr.2 (NewV.sh rfl)⟩
theorem op_subI : OpR X (binaryOp .Sub) (rI (fun _ _ => True) fun i j => .int (i - j)) := fun pins s σ H x y v u Q I rx ry ⟨i, j, a, b, _, q⟩ => op_sub pins s σ H x y v u Q I rx ry ⟨i, j, a, b, q⟩
abbrev subD := intOp (fun _ _ => True) (fun i j => i - j)
abbrev divD := intOp CDiv (fun i j => i / j)
abbrev modD := intOp (fun _ j => 0 < j) (fun i j => i % j)
abbrev powD := intOp CPow (fun i j => i ^ j.toNat)
theorem op_subZ : OpE X (gX X xa) (binaryOp .Sub) (on2 subD) := op_intZ op_subI
theorem op_divZ : OpE X (gX X xa) (binaryOp .FloorDiv) (on2 divD) := op_intZ op_fdiv
theorem op_modZ : OpE X (gX X xa) (binaryOp .Mod) (on2 modD) := op_intZ op_mod
theorem op_powZ : OpE X (gX X xa) (binaryOp .Pow) (on2 powD) := op_intZ op_pow
/-- a * b -/
def mulD : D → D → (Nat → D → Prop) → Prop
  | .int i, .int j, k => CMul i j ∧ k 0 (.int (i * j))
  | .lst a, .int j, k => j ≤ big ∧ -big ≤ j ∧ a.length * j.toNat ≤ big ∧ k 1 (.lst (List.replicate j.toNat a).flatten)
  | .tup a, .int j, k => a ≠ [] ∧ 2 ≤ j ∧ j ≤ 1000 ∧ a.length ≤ 1000 ∧ k 0 (.tup (List.replicate j.toNat a).flatten)
  | _, _, _ => False
theorem op_mulZ : OpE X (gX X xa) (binaryOp .Mult) (on2 mulD) := by
  intro pins s σ H x y v u Q I rx ry h
  obtain ⟨M, d, e, x', y', Qd, ev, hm, hx, hy, hr, k⟩ := rdE2 h
  injection ev with e1 e2
  injection e2 with e2 _
  subst e1 e2
  match d, e, hr, hx, hy with
  | .int i, .int j, hr, hx, hy =>
    obtain rfl : x = V.int i := hx
    obtain rfl : y = V.int j := hy
    exact op_mul pins s σ H _ _ v u Q I rx ry ⟨i, j, rfl, rfl, hr.1, k 0 _ _ H hr.2 (NewV.sh rfl)⟩
  | .lst a, .int j, ⟨h1, h2, hz, hr⟩, hx, hy =>
    obtain ⟨p, xs, rfl, sx, ex⟩ := hx
    obtain rfl : y = V.int j := hy
    have hb : (big : Int) = 1000000 := rfl
    exact op_rep pins s σ H _ _ v u Q I rx ry ⟨p, j, xs, rfl, rfl, sx, by omega, by omega, by rw [← shl_len ex]; exact big_line hz, fun r hp => k 1 _ _ _ hr (NewV.lst hm (shl_rep ex _) hp)⟩
  | .tup a, .int j, ⟨hne, h1, h2, hz, hr⟩, hx, hy =>
    obtain ⟨p, xs, rfl, sx, ex⟩ := hx
    obtain rfl : y = V.int j := hy
    exact op_repT pins s σ H _ _ v u Q I rx ry ⟨p, j, xs, rfl, rfl, sx.sq, fun e => hne (List.eq_nil_of_length_eq_zero (by rw [shl_len ex, e]; rfl)), h1, h2, by rw [← shl_len ex]; exact hz, fun r hp => k 0 _ _ _ hr (NewV.tup hm (shl_rep ex _) hp)⟩
/-- -a -/
def negD : D → (D → Prop) → Prop
  | .int i, k => k (.int (-i))
  | _, _ => False
theorem un_negZ : UnR X (unaryOp .USub) fun x H Q => RdV (gX X xa) (on1V negD) [x] H Q := by
  intro pins s σ H x v Q I rx h
  obtain ⟨d, x', Qd, ev, hx, hr, k⟩ := rdV1 h
  injection ev with e1 _
  subst e1
  match d, hr, hx with
  | .int i, hr, hx =>
    obtain rfl : x = V.int i := hx
    exact un_neg pins s σ H _ v Q I rx ⟨i, rfl, k _ _ hr rfl⟩

/-! ### comparisons -/
mutual
def toP : D → PyData
  | .non => .none
  | .bl b => .bool b
  | .int i => .int i
  | .str x => .str x
  | .tup ds => .tuple (toPL ds)
  | .lst ds => .list (toPL ds)
  | .ty _ => .none
  | .cls _ => .none
  | .scr _ => .none
  | .ins _ _ _ => .none
  | .xr _ _ _ => .none
def toPL : List D → List PyData
  | [] => []
  | d :: ds => toP d :: toPL ds
end
mutual
/-- plain data, at most so deep -/
def pdB : Nat → D → Bool
  | _, .non => true
  | _, .bl _ => true
  | _, .int _ => true
  | _, .str x => PyData.strOk x
  | n + 1, .tup ds => pdL n ds
  | n + 1, .lst ds => pdL n ds
  | _, _ => false
def pdL : Nat → List D → Bool
  | _, [] => true
  | n, d :: ds => pdB n d && pdL n ds
end
mutual
theorem pd_dp {M : Addr → Prop} : ∀ (d : D) (n : Nat) (v : V), pdB n d = true → Sh g H M d v → L2.Dp g.K H v (toP d)
  | .non, _, v, _, h => by cases h; exact .non
  | .bl b, _, v, _, h => by cases h; exact .bl b
  | .int i, _, v, _, h => by cases h; exact .int i
  | .str x, _, v, _, h => by cases h; exact .str x
  | .tup ds, n + 1, v, p, h => by
    obtain ⟨a, vs, rfl, t, r⟩ := h
    exact .tup t.sq (pd_dpL ds n vs (by simpa [pdB] using p) r)
  | .lst ds, n + 1, v, p, h => by
    obtain ⟨a, vs, rfl, t, r⟩ := h
    exact .lst t.sq (pd_dpL ds n vs (by simpa [pdB] using p) r)
  | .tup ds, 0, v, p, h => by simp [pdB] at p
  | .lst ds, 0, v, p, h => by simp [pdB] at p
  | .ty _, n, v, p, h => by cases n <;> simp [pdB] at p
  | .cls _, n, v, p, h => by cases n <;> simp [pdB] at p
  | .scr _, n, v, p, h => by cases n <;> simp [pdB] at p
  | .ins _ _ _, n, v, p, h => by cases n <;> simp [pdB] at p
  | .xr _ _ _, n, v, p, h => by cases n <;> simp [pdB] at p
theorem pd_dpL {M : Addr → Prop} : ∀ (ds : List D) (n : Nat) (vs : List V), pdL n ds = true → ShL g H M ds vs → L2.DpAll g.K H vs (toPL ds)
  | [], _, _, _, rfl => .nil
  | d :: ds, n, _, p, ⟨v, r, rfl, a, b⟩ => by
    have p' := p
    unfold pdL at p'
    obtain ⟨p1, p2⟩ := Bool.and_eq_true_iff.mp p'
    exact .cons (pd_dp d n v p1 a) (pd_dpL ds n r p2 b)
end
mutual
theorem pd_lay : ∀ (d : D) (n : Nat), pdB n d = true → (toP d).canLay0 = true ∧ (toP d).depth ≤ n
  | .non, _, _ => by simp [toP, PyData.canLay0, PyData.depth]
  | .bl b, _, _ => by simp [toP, PyData.canLay0, PyData.depth]
  | .int i, _, _ => by simp [toP, PyData.canLay0, PyData.depth]
  | .str x, n, p => by
    have p' : PyData.strOk x = true := by cases n <;> simpa [pdB] using p
    simp [toP, PyData.canLay0, PyData.depth, p']
  | .tup ds, n + 1, p => by
    obtain ⟨a, b⟩ := pd_layL ds n (by simpa [pdB] using p)
    simp only [toP, PyData.canLay0, PyData.depth]
    exact ⟨a, by omega⟩
  | .lst ds, n + 1, p => by
    obtain ⟨a, b⟩ := pd_layL ds n (by simpa [pdB] using p)
    simp only [toP, PyData.canLay0, PyData.depth]
    exact ⟨a, by omega⟩
  | .tup ds, 0, p => by simp [pdB] at p
  | .lst ds, 0, p => by simp [pdB] at p
  | .ty _, n, p => by cases n <;> simp [pdB] at p
  | .cls _, n, p => by cases n <;> simp [pdB] at p
  | .scr _, n, p => by cases n <;> simp [pdB] at p
  | .ins _ _ _, n, p => by cases n <;> simp [pdB] at p
  | .xr _ _ _, n, p => by cases n <;> simp [pdB] at p
theorem pd_layL : ∀ (ds : List D) (n : Nat), pdL n ds = true → PyData.canLayAll0 (toPL ds) = true ∧ PyData.depthAll (toPL ds) ≤ n
  | [], _, _ => by simp [toPL, PyData.canLayAll0, PyData.depthAll]
  | d :: ds, n, p => by
    unfold pdL at p
    obtain ⟨p1, p2⟩ := Bool.and_eq_true_iff.mp p
    obtain ⟨a, b⟩ := pd_lay d n p1
    obtain ⟨a2, b2⟩ := pd_layL ds n p2
    simp only [toPL, PyData.canLayAll0, PyData.depthAll]
    exact ⟨by rw [a, a2]; rfl, by omega⟩
end
theorem pd_shaped {d : D} (h : pdB 60 d = true) : SeqAt.shaped (toP d) = true := by
  obtain ⟨a, b⟩ := pd_lay d 60 h
  show ((toP d).canLay0 && decide ((toP d).depth ≤ 64)) = true
  rw [a, decide_eq_true (by omega)]; rfl
/-- a == b of plain data -/
def eqB (a b : D) : Bool := PyData.eqv (toP a) (toP b)
def eqD : D → D → (D → Prop) → Prop := fun a b k => pdB 60 a = true ∧ pdB 60 b = true ∧ k (.bl (eqB a b))
def neD : D → D → (D → Prop) → Prop := fun a b k => pdB 60 a = true ∧ pdB 60 b = true ∧ k (.bl (!eqB a b))
theorem op_eqZ (hu : X.A.units + 64 < cLine) : OpV X (gX X xa) (compareOp .Eq) (on2V eqD) := by
  intro pins s σ H x y v u Q I rx ry h
  obtain ⟨d, e, x', y', Qd, ev, hx, hy, ⟨h1, h2, hr⟩, k⟩ := rdV2 h
  injection ev with e1 e2
  injection e2 with e2 _
  subst e1 e2
  exact op_eqD hu pins s σ H _ _ v u Q I rx ry ⟨toP d, toP e, pd_dp d 60 _ h1 hx, pd_dp e 60 _ h2 hy, pd_shaped h1, pd_shaped h2, k _ _ hr rfl⟩
theorem op_neZ (hu : X.A.units + 64 < cLine) : OpV X (gX X xa) (compareOp .NotEq) (on2V neD) := by
  intro pins s σ H x y v u Q I rx ry h
  obtain ⟨d, e, x', y', Qd, ev, hx, hy, ⟨h1, h2, hr⟩, k⟩ := rdV2 h
  injection ev with e1 e2
  injection e2 with e2 _
  subst e1 e2
  exact op_neD hu pins s σ H _ _ v u Q I rx ry ⟨toP d, toP e, pd_dp d 60 _ h1 hx, pd_dp e 60 _ h2 hy, pd_shaped h1, pd_shaped h2, k _ _ hr rfl⟩
def cmpD (p : Int → Int → Bool) : D → D → (D → Prop) → Prop
  | .int i, .int j, k => k (.bl (p i j))
  | _, _, _ => False
theorem op_cmpZ {op : CmpOp} {p : Int → Int → Bool} (h0 : OpR X (compareOp op) (rI0 fun i j => .bl (p i j))) : OpV X (gX X xa) (compareOp op) (on2V (cmpD p)) := by
  intro pins s σ H x y v u Q I rx ry h
  obtain ⟨d, e, x', y', Qd, ev, hx, hy, hr, k⟩ := rdV2 h
  injection ev with e1 e2
  injection e2 with e2 _
  subst e1 e2
  match d, e, hr, hx, hy with
  | .int i, .int j, hr, hx, hy =>
    obtain rfl : x = V.int i := hx
    obtain rfl : y = V.int j := hy
    exact h0 pins s σ H _ _ v u Q I rx ry ⟨i, j, rfl, rfl, k _ _ hr rfl⟩
abbrev ltD := cmpD fun i j => decide (i < j)
abbrev leD := cmpD fun i j => decide (i ≤ j)
abbrev gtD := cmpD fun i j => decide (j < i)
abbrev geD := cmpD fun i j => decide (j ≤ i)
theorem op_ltZ : OpV X (gX X xa) (compareOp .Lt) (on2V ltD) := op_cmpZ op_lt
theorem op_leZ : OpV X (gX X xa) (compareOp .LtE) (on2V leD) := op_cmpZ op_le
theorem op_gtZ : OpV X (gX X xa) (compareOp .Gt) (on2V gtD) := op_cmpZ op_gt
theorem op_geZ : OpV X (gX X xa) (compareOp .GtE) (on2V geD) := op_cmpZ op_ge
def isNon : D → Bool
  | .non => true
  | _ => false
theorem isNon_V {M : Addr → Prop} {d : D} {v : V} (h : Sh g H M d v) : decide (v = .non) = isNon d := by
  cases d with
  | non => cases h; rfl
  | bl b => cases h; rfl
  | int b => cases h; rfl
  | str b => cases h; rfl
  | ty b => cases h; rfl
  | cls b => cases h; rfl
  | tup ds => obtain ⟨a, vs, rfl, _⟩ := h; rfl
  | lst ds => obtain ⟨a, vs, rfl, _⟩ := h; rfl
  | scr ds => obtain ⟨a, vs, rfl, _⟩ := h; rfl
  | ins C ns ds => obtain ⟨a, dx, vs, rfl, _⟩ := h; rfl
  | xr C ns ds => obtain ⟨a, dx, vs, _, rfl, _⟩ := h; rfl
/-- is None; is True, is False of bools -/
def isD : D → D → (D → Prop) → Prop
  | a, .non, k => k (.bl (isNon a))
  | .bl a, .bl b, k => k (.bl (decide (a = b)))
  | _, _, _ => False
def isntD : D → D → (D → Prop) → Prop
  | a, .non, k => k (.bl (!isNon a))
  | .bl a, .bl b, k => k (.bl (!decide (a = b)))
  | _, _, _ => False
theorem op_isZ : OpV X (gX X xa) (compareOp .Is) (on2V isD) := by
  intro pins s σ H x y v u Q I rx ry h
  obtain ⟨d, e, x', y', Qd, ev, hx, hy, hr, k⟩ := rdV2 h
  injection ev with e1 e2
  injection e2 with e2 _
  subst e1 e2
  match d, e, hr, hx, hy with
  | .bl a, .bl b, hr, hx, hy =>
    obtain rfl : x = V.bl a := hx
    obtain rfl : y = V.bl b := hy
    exact op_isBl pins s σ H _ _ v u Q I rx ry ⟨a, b, rfl, rfl, k _ _ hr rfl⟩
  | d, .non, hr, hx, hy =>
    obtain rfl : y = V.non := hy
    have hr' : Qd (.bl (isNon d)) := by cases d <;> exact hr
    exact op_isN pins s σ H _ _ v u Q I rx ry ⟨rfl, by rw [isNon_V hx]; exact k _ _ hr' rfl⟩
theorem op_isntZ : OpV X (gX X xa) (compareOp .IsNot) (on2V isntD) := by
  intro pins s σ H x y v u Q I rx ry h
  obtain ⟨d, e, x', y', Qd, ev, hx, hy, hr, k⟩ := rdV2 h
  injection ev with e1 e2
  injection e2 with e2 _
  subst e1 e2
  match d, e, hr, hx, hy with
  | .bl a, .bl b, hr, hx, hy =>
    obtain rfl : x = V.bl a := hx
    obtain rfl : y = V.bl b := hy
    exact op_notBl pins s σ H _ _ v u Q I rx ry ⟨a, b, rfl, rfl, k _ _ hr rfl⟩
  | d, .non, hr, hx, hy =>
    obtain rfl : y = V.non := hy
    have hr' : Qd (.bl (!isNon d)) := by cases d <;> exact hr
    exact op_notN pins s σ H _ _ v u Q I rx ry ⟨rfl, by rw [isNon_V hx]; exact k _ _ hr' rfl⟩

/-! ### built-in functions -/
def lenD : D → (D → Prop) → Prop
  | .lst ds, k => k (.int ds.length)
  | .tup ds, k => k (.int ds.length)
  | .scr ds, k => k (.int ds.length)
  | _, _ => False
theorem call_lenZ : CallV X (gX X xa) (.builtin "len") (on1V lenD) := by
  intro pins s σ H vs us Q I rx h
  obtain ⟨d, x, Qd, rfl, hx, hr, k⟩ := rdV1 h
  match d, hr, hx with
  | .lst ds, hr, hx =>
    obtain ⟨p, xs, rfl, sx, ex⟩ := hx
    exact call_len_seq pins s σ H _ us Q I rx ⟨p, xs, rfl, .inl sx.sq, by rw [← shl_len ex]; exact k _ _ hr rfl⟩
  | .tup ds, hr, hx =>
    obtain ⟨p, xs, rfl, sx, ex⟩ := hx
    exact call_len_seq pins s σ H _ us Q I rx ⟨p, xs, rfl, .inr sx.sq, by rw [← shl_len ex]; exact k _ _ hr rfl⟩
  | .scr ds, hr, hx =>
    obtain ⟨p, xs, rfl, sx, ex⟩ := hx
    exact call_len_seq pins s σ H _ us Q I rx ⟨p, xs, rfl, .inl (sx.sq), by rw [← shl_len ex]; exact k _ _ hr rfl⟩
def int1D : D → (D → Prop) → Prop
  | .int i, k => k (.int i)
  | .bl b, k => k (.int (if b then 1 else 0))
  | _, _ => False
theorem call_intZ : CallV X (gX X xa) (.type "int") (on1V int1D) := by
  intro pins s σ H vs us Q I rx h
  obtain ⟨d, x, Qd, rfl, hx, hr, k⟩ := rdV1 h
  match d, hr, hx with
  | .int i, hr, hx =>
    obtain rfl : x = V.int i := hx
    exact call_int1 pins s σ H _ us Q I rx (.inl ⟨i, rfl, k _ _ hr rfl⟩)
  | .bl b, hr, hx =>
    obtain rfl : x = V.bl b := hx
    exact call_int1 pins s σ H _ us Q I rx (.inr ⟨b, rfl, k _ _ hr rfl⟩)
def absD : D → (D → Prop) → Prop
  | .int i, k => k (.int (if i < 0 then -i else i))
  | _, _ => False
theorem call_absZ : CallV X (gX X xa) (.builtin "abs") (on1V absD) := by
  intro pins s σ H vs us Q I rx h
  obtain ⟨d, x, Qd, rfl, hx, hr, k⟩ := rdV1 h
  match d, hr, hx with
  | .int i, hr, hx =>
    obtain rfl : x = V.int i := hx
    exact call_abs pins s σ H _ us Q I rx ⟨i, rfl, k _ _ hr rfl⟩
def max2D : D → D → (D → Prop) → Prop
  | .int i, .int j, k => k (.int (if j > i then j else i))
  | _, _, _ => False
def min2D : D → D → (D → Prop) → Prop
  | .int i, .int j, k => k (.int (if j < i then j else i))
  | _, _, _ => False
theorem call_max2Z (hc : X.calm = true) : CallV X (gX X xa) (.builtin "max") (on2V max2D) := by
  intro pins s σ H vs us Q I rx h
  obtain ⟨d, e, x, y, Qd, rfl, hx, hy, hr, k⟩ := rdV2 h
  match d, e, hr, hx, hy with
  | .int i, .int j, hr, hx, hy =>
    obtain rfl : x = V.int i := hx
    obtain rfl : y = V.int j := hy
    exact call_max2 hc pins s σ H _ us Q I rx ⟨i, j, rfl, k _ _ hr rfl⟩
theorem call_min2Z (hc : X.calm = true) : CallV X (gX X xa) (.builtin "min") (on2V min2D) := by
  intro pins s σ H vs us Q I rx h
  obtain ⟨d, e, x, y, Qd, rfl, hx, hy, hr, k⟩ := rdV2 h
  match d, e, hr, hx, hy with
  | .int i, .int j, hr, hx, hy =>
    obtain rfl : x = V.int i := hx
    obtain rfl : y = V.int j := hy
    exact call_min2 hc pins s σ H _ us Q I rx ⟨i, j, rfl, k _ _ hr rfl⟩
/-- all, any of a list of bools -/
def allD : D → (D → Prop) → Prop
  | .lst ds, k => ∃ l, bls? ds = some l ∧ k (.bl (l.all id))
  | _, _ => False
def anyD : D → (D → Prop) → Prop
  | .lst ds, k => ∃ l, bls? ds = some l ∧ k (.bl (l.any id))
  | _, _ => False
theorem call_allZ (hc : X.calm = true) : CallV X (gX X xa) (.builtin "all") (on1V allD) := by
  intro pins s σ H vs us Q I rx h
  obtain ⟨d, x, Qd, rfl, hx, hr, k⟩ := rdV1 h
  match d, hr, hx with
  | .lst ds, ⟨l, e, hr⟩, hx =>
    obtain ⟨p, xs, rfl, sx, ex⟩ := hx
    obtain rfl := bls?_eq e
    obtain rfl := shl_bls.mp ex
    exact cr_all hc pins s σ H _ us Q I rx ⟨p, l, rfl, sx.sq, k _ _ hr rfl⟩
theorem call_anyZ (hc : X.calm = true) : CallV X (gX X xa) (.builtin "any") (on1V anyD) := by
  intro pins s σ H vs us Q I rx h
  obtain ⟨d, x, Qd, rfl, hx, hr, k⟩ := rdV1 h
  match d, hr, hx with
  | .lst ds, ⟨l, e, hr⟩, hx =>
    obtain ⟨p, xs, rfl, sx, ex⟩ := hx
    obtain rfl := bls?_eq e
    obtain rfl := shl_bls.mp ex
    exact cr_any hc pins s σ H _ us Q I rx ⟨p, l, rfl, sx.sq, k _ _ hr rfl⟩
/-- sum of a list of ints -/
def sumD : D → (D → Prop) → Prop
  | .lst ds, k => ∃ l, ints? ds = some l ∧ k (.int l.sum)
  | _, _ => False
theorem call_sumZ (hc : X.calm = true) : CallV X (gX X xa) (.builtin "sum") (on1V sumD) := by
  intro pins s σ H vs us Q I rx h
  obtain ⟨d, x, Qd, rfl, hx, hr, k⟩ := rdV1 h
  match d, hr, hx with
  | .lst ds, ⟨l, e, hr⟩, hx =>
    obtain ⟨p, xs, rfl, sx, ex⟩ := hx
    obtain rfl := ints?_eq e
    obtain rfl := shl_ints.mp ex
    exact cr_sum hc pins s σ H _ us Q I rx ⟨p, l, rfl, sx.sq, k _ _ hr rfl⟩
/-- tuple(x), list(x) -/
def tupD : D → (Nat → D → Prop) → Prop
  | .lst ds, k => k 0 (.tup ds)
  | .tup ds, k => k 0 (.tup ds)
  | _, _ => False
def lstD : D → (Nat → D → Prop) → Prop
  | .lst ds, k => k 1 (.lst ds)
  | .tup ds, k => k 1 (.lst ds)
  | _, _ => False
theorem call_tupleZ : CallE X (gX X xa) (.type "tuple") (on1 tupD) := by
  intro pins s σ H vs us Q I rx h
  obtain ⟨M, d, x, Qd, rfl, hm, hx, hr, k⟩ := rdE1 h
  match d, hr, hx with
  | .lst ds, hr, hx =>
    obtain ⟨p, xs, rfl, sx, ex⟩ := hx
    exact call_tuple_of pins s σ H _ us Q I rx ⟨p, xs, rfl, .inl ⟨.of sx, fun l hl => k 0 _ _ _ hr (NewV.tup hm ex hl)⟩⟩
  | .tup ds, hr, hx =>
    have hx' := hx
    obtain ⟨p, xs, rfl, sx, ex⟩ := hx
    exact call_tuple_of pins s σ H _ us Q I rx ⟨p, xs, rfl, .inr ⟨sx.sq, k 0 _ _ _ hr (NewV.sh hx')⟩⟩
theorem call_listZ : CallE X (gX X xa) (.type "list") (on1 lstD) := by
  intro pins s σ H vs us Q I rx h
  obtain ⟨M, d, x, Qd, rfl, hm, hx, hr, k⟩ := rdE1 h
  match d, hr, hx with
  | .lst ds, hr, hx =>
    obtain ⟨p, xs, rfl, sx, ex⟩ := hx
    exact call_list_of pins s σ H _ us Q I rx ⟨p, xs, rfl, .inl (.of sx), fun l hl => k 1 _ _ _ hr (NewV.lst hm ex hl)⟩
  | .tup ds, hr, hx =>
    obtain ⟨p, xs, rfl, sx, ex⟩ := hx
    exact call_list_of pins s σ H _ us Q I rx ⟨p, xs, rfl, .inr sx.sq, fun l hl => k 1 _ _ _ hr (NewV.lst hm ex hl)⟩

/-! ### items, slices -/
def ixD : D → D → (Nat → D → Prop) → Prop
  | .lst ds, .int i, k => ∃ d, atI ds i = some d ∧ k 0 d
  | .tup ds, .int i, k => ∃ d, atI ds i = some d ∧ k 0 d
  | .scr ds, .int i, k => ∃ d, atI ds i = some d ∧ k 0 d
  | _, _, _ => False
theorem atI_sh {M : Addr → Prop} {ds : List D} {vs : List V} {i : Int} {d : D} (h : ShL g H M ds vs) (e : atI ds i = some d) : ∃ v, atI vs i = some v ∧ Sh g H M d v := by
  unfold atI at e ⊢
  rw [← shl_len h]
  cases q : ixN ds.length i with
  | none => rw [q] at e; cases e
  | some j =>
    rw [q] at e
    exact shl_get h e
theorem ix_Z : IxR X fun x y H Q => RdE (gX X xa) (on2 ixD) [x, y] H Q := by
  intro value slice pins s σ H x y v u Q I rx ry h hs
  obtain ⟨M, d, e, x', y', Qd, ev, hm, hx, hy, hr, k⟩ := rdE2 h
  injection ev with e1 e2
  injection e2 with e2 _
  subst e1 e2
  match d, e, hr, hx, hy with
  | .lst ds, .int i, ⟨d, hd, hr⟩, hx, hy =>
    obtain ⟨p, xs, rfl, sx, ex⟩ := hx
    obtain rfl : y = V.int i := hy
    obtain ⟨w, hw, sw⟩ := atI_sh ex hd
    exact ix_list value slice pins s σ H _ _ v u Q I rx ry ⟨p, xs, i, w, rfl, rfl, .of sx, hw, k 0 _ _ H hr (NewV.sh sw)⟩ hs
  | .tup ds, .int i, ⟨d, hd, hr⟩, hx, hy =>
    obtain ⟨p, xs, rfl, sx, ex⟩ := hx
    obtain rfl : y = V.int i := hy
    obtain ⟨w, hw, sw⟩ := atI_sh ex hd
    exact ix_tup value slice pins s σ H _ _ v u Q I rx ry ⟨p, xs, i, w, rfl, rfl, sx.sq, hw, k 0 _ _ H hr (NewV.sh sw)⟩ hs
  | .scr ds, .int i, ⟨d, hd, hr⟩, hx, hy =>
    obtain ⟨p, xs, rfl, sx, ex⟩ := hx
    obtain rfl : y = V.int i := hy
    obtain ⟨w, hw, sw⟩ := atI_sh ex hd
    exact ix_list value slice pins s σ H _ _ v u Q I rx ry ⟨p, xs, i, w, rfl, rfl, sx.sq, hw, k 0 _ _ H hr (NewV.sh sw)⟩ hs
/-- xs[lo:hi] -/
def cut {α : Type} (xs : List α) (lo hi : Option Int) : List α := (xs.drop (HT.sIx xs.length 0 lo)).take (HT.sIx xs.length xs.length hi - HT.sIx xs.length 0 lo)
theorem shl_cut {M : Addr → Prop} {ds : List D} {vs : List V} (lo hi : Option Int) (h : ShL g H M ds vs) : ShL g H M (cut ds lo hi) (cutV vs lo hi) := by
  unfold cut cutV
  rw [← shl_len h]
  exact shl_take _ (shl_drop _ h)
/-- a slice by data: from ds, lo, hi -/
def slD : D → Option Int → Option Int → (Nat → D → Prop) → Prop
  | .lst ds, lo, hi, k => k 1 (.lst (cut ds lo hi))
  | .tup ds, lo, hi, k => k 0 (.tup (cut ds lo hi))
  | _, _, _, _ => False
def RdS (g : G) (lo hi : Option Int) (x : V) (H : Hp) (Q : VK) : Prop := ∃ M d Qd, (∀ a, M a → H a ≠ none) ∧ El g H M d x ∧ slD d lo hi Qd ∧ ∀ n d v H', Qd n d → NewV g H M n d v H' → Q v H'
theorem sl_Z : SlR X fun x lo hi H Q => RdS (gX X xa) lo hi x H Q := by
  intro pins s σ H x v vl vu lo hi sl Q I rx hs pl pu h
  obtain ⟨M, d, Qd, hm, hx, hr, k⟩ := h
  match d, hr, hx with
  | .lst ds, hr, hx =>
    obtain ⟨p, xs, rfl, sx, ex⟩ := hx
    exact sl_list pins s σ H _ v vl vu lo hi sl Q I rx hs pl pu ⟨p, xs, rfl, .of sx, fun l hl => k 1 _ _ _ hr (NewV.lst hm (shl_cut lo hi ex) hl)⟩
  | .tup ds, hr, hx =>
    have hx' := hx
    obtain ⟨p, xs, rfl, sx, ex⟩ := hx
    refine sl_tupA pins s σ H _ v vl vu lo hi sl Q I rx hs pl pu ⟨p, xs, rfl, sx.sq, fun e => ?_, fun _ l hl => k 0 _ _ _ hr (NewV.tup hm (shl_cut lo hi ex) hl)⟩
    have ec : cut ds lo hi = ds := by
      unfold cut
      rw [shl_len ex, e.1, e.2, List.drop_zero, Nat.sub_zero, ← shl_len ex, List.take_length]
    have hr' : Qd 0 (.tup (cut ds lo hi)) := hr
    rw [ec] at hr'
    exact k 0 _ _ H hr' (NewV.sh hx')
end

/-! ### an operand that is an int -/
section
variable {X : Cx} {g : G} {W : WX} {xa : Option (Addr × Addr)} {e el eh : Expr} {wa wl wh : WO} {pos p2 : Pos}
def wInt (wa : WO) : WO := fun ρ Q E => wa ρ (fun o ρ' => opnv ρ' o fun d => match d with
  | .int _ => Q o ρ'
  | _ => False) E
theorem lift_int {σ : St} {H : Hp} {Q : VK} (h : liftO g W (wInt wa) σ H Q) : liftO g W wa σ H fun y H1 => ∃ i, y = .int i ∧ Q y H1 := by
  obtain ⟨M0, ρ, F, Qd, Ed, s, hw, k, lk⟩ := h
  refine ⟨M0, ρ, F, _, Ed, s, hw, fun o ρ1 v H1 F1 T TD hq ho s1 l1 t1 => ?_, lk⟩
  obtain ⟨d, hd, sh⟩ := opnv_one s1 l1 ho hq
  cases d with
  | int i => exact ⟨i, sh, k o ρ1 v H1 F1 T TD hd ho s1 l1 t1⟩
  | _ => exact hd.elim
/-- xs[lo:hi], xs[lo:], xs[:hi], xs[:] -/
def rSl2 : RE := fun ds k => match ds with
  | [d, .int i, .int j] => slD d (some i) (some j) k
  | _ => False
def rSlL : RE := fun ds k => match ds with
  | [d, .int i] => slD d (some i) none k
  | _ => False
def rSlH : RE := fun ds k => match ds with
  | [d, .int i] => slD d none (some i) k
  | _ => False
def rSl0 : RE := fun ds k => match ds with
  | [d] => slD d none none k
  | _ => False
theorem lifts_3 {wb wc : WO} {σ : St} {H : Hp} {Q : List V → Hp → Prop} (h : lifts g W (wCons wa (w2 wb wc)) σ H Q) : liftO g W wa σ H fun x H1 => liftO g W wb σ H1 fun y H2 => liftO g W wc σ H2 fun z H3 => Q [x, y, z] H3 :=
  liftO_mono (lifts_cons h) fun _ _ h => lifts_2 h
theorem do_sl2 (ha : DO X (gX X xa) W e wa) (hl : DO X (gX X xa) W el wl) (hh : DO X (gX X xa) W eh wh) : DO X (gX X xa) W (.Subscript e (.Slice (some el) (some eh) none p2) pos) (wE rSl2 (wCons wa (w2 (wInt wl) (wInt wh)))) :=
  PE.weak (pe_slice sl_Z ha (po_some hl) (po_some hh)) fun σ H Q h => liftO_mono (lifts_3 (lifts_E h)) fun x H1 h1 => liftO_mono (lift_int h1) fun y H2 ⟨i, ey, h2⟩ => ⟨i, ey, liftO_mono (lift_int h2) fun z H3 ⟨j, ez, h3⟩ => ⟨j, ez, by
    obtain ⟨M, ds, Qd, hm, P, hr, k⟩ := h3
    match ds, P, hr with
    | [d, .int i', .int j'], .cons h1 (.cons h2 (.cons h3 .nil)), hr =>
      obtain rfl : y = V.int i' := h2
      obtain rfl : z = V.int j' := h3
      cases ey
      cases ez
      exact ⟨M, d, Qd, hm, h1, hr, k⟩⟩⟩
theorem do_slL (ha : DO X (gX X xa) W e wa) (hl : DO X (gX X xa) W el wl) : DO X (gX X xa) W (.Subscript e (.Slice (some el) none none p2) pos) (wE rSlL (w2 wa (wInt wl))) :=
  PE.weak (pe_slice sl_Z ha (po_some hl) po_none) fun σ H Q h => liftO_mono (lifts_2 (lifts_E h)) fun x H1 h1 => liftO_mono (lift_int h1) fun y H2 ⟨i, ey, h2⟩ => ⟨i, ey, by
    obtain ⟨M, ds, Qd, hm, P, hr, k⟩ := h2
    match ds, P, hr with
    | [d, .int i'], .cons h1 (.cons h2 .nil), hr =>
      obtain rfl : y = V.int i' := h2
      cases ey
      exact ⟨M, d, Qd, hm, h1, hr, k⟩⟩
theorem do_slH (ha : DO X (gX X xa) W e wa) (hl : DO X (gX X xa) W eh wl) : DO X (gX X xa) W (.Subscript e (.Slice none (some eh) none p2) pos) (wE rSlH (w2 wa (wInt wl))) :=
  PE.weak (pe_slice sl_Z ha po_none (po_some hl)) fun σ H Q h => liftO_mono (lifts_2 (lifts_E h)) fun x H1 h1 => liftO_mono (lift_int h1) fun y H2 ⟨i, ey, h2⟩ => ⟨i, ey, by
    obtain ⟨M, ds, Qd, hm, P, hr, k⟩ := h2
    match ds, P, hr with
    | [d, .int i'], .cons h1 (.cons h2 .nil), hr =>
      obtain rfl : y = V.int i' := h2
      cases ey
      exact ⟨M, d, Qd, hm, h1, hr, k⟩⟩
theorem do_sl0 (ha : DO X (gX X xa) W e wa) : DO X (gX X xa) W (.Subscript e (.Slice none none none p2) pos) (wE rSl0 (w1 wa)) :=
  PE.weak (pe_slice sl_Z ha po_none po_none) fun σ H Q h => liftO_mono (lifts_1 (lifts_E h)) fun x H1 h1 => by
    obtain ⟨M, ds, Qd, hm, P, hr, k⟩ := h1
    match ds, P, hr with
    | [d], .cons h1 .nil, hr => exact ⟨M, d, Qd, hm, h1, hr, k⟩
end

/-! ### isinstance -/
section
variable {X : Cx} {xa : Option (Addr × Addr)} {g : G} {H : Hp}
/-- a datum's built-in type -/
def typD : D → Option String
  | .non => some "NoneType"
  | .bl _ => some "bool"
  | .int _ => some "int"
  | .str _ => some "str"
  | .tup _ => some "tuple"
  | .lst _ => some "list"
  | _ => none
def okTys : List String := ["int", "bool", "str", "list", "tuple"]
/-- is a of the type c -/
def isiB (d : D) (n : String) : Bool := match d with
  | .bl _ => n == "bool" || n == "int"
  | .int _ => n == "int"
  | .str _ => n == "str"
  | .tup _ => n == "tuple"
  | .lst _ => n == "list"
  | _ => false
theorem isiB_kit {K : PySem.W.Frag} {d : D} {t n : String} (ht : typD d = some t) (hn : n ∈ okTys) : PySem.W.kitOne K (.type t) (.type n) = some (isiB d n) := by
  refine kit_ty ?_
  have h5 : n = "int" ∨ n = "bool" ∨ n = "str" ∨ n = "list" ∨ n = "tuple" := by simpa [okTys] using hn
  cases d <;> simp only [typD, Option.some.injEq, reduceCtorEq] at ht <;> subst ht <;> rcases h5 with rfl | rfl | rfl | rfl | rfl <;> simp only [isiB] <;> decide +kernel
theorem typ_x {M : Addr → Prop} {d : D} {t : String} {v : V} (ht : typD d = some t) (h : Sh g H M d v) : TyX g.K H v (.type t) := by
  cases d with
  | non => cases ht; cases h; exact .base .non
  | bl b => cases ht; cases h; exact .base (.bl _)
  | int b => cases ht; cases h; exact .base (.int _)
  | str b => cases ht; cases h; exact .base (.str _)
  | tup ds =>
    cases ht
    obtain ⟨a, vs, rfl, t, _⟩ := h
    rcases t with ⟨_, t⟩ | ⟨o, its, n, e, c, _⟩
    · exact .base (.tup t)
    · exact .kTuple e c
  | lst ds =>
    cases ht
    obtain ⟨a, vs, rfl, ⟨_, t⟩, _⟩ := h
    exact .base (.lst t)
  | _ => cases ht
def tys? : List D → Option (List String)
  | [] => some []
  | .ty n :: r => (tys? r).map (n :: ·)
  | _ :: _ => none
theorem tys?_eq : ∀ {ds : List D} {l : List String}, tys? ds = some l → ds = l.map D.ty
  | [], l, h => by cases h; rfl
  | .ty i :: r, l, h => by
    obtain ⟨l', h1, rfl⟩ := Option.map_eq_some_iff.mp h
    rw [tys?_eq h1]; rfl
  | .non :: _, _, h => nomatch h
  | .bl _ :: _, _, h => nomatch h
  | .int _ :: _, _, h => nomatch h
  | .str _ :: _, _, h => nomatch h
  | .cls _ :: _, _, h => nomatch h
  | .tup _ :: _, _, h => nomatch h
  | .scr _ :: _, _, h => nomatch h
  | .lst _ :: _, _, h => nomatch h
  | .ins _ _ _ :: _, _, h => nomatch h
  | .xr _ _ _ :: _, _, h => nomatch h
/-- isinstance(x, T), isinstance(x, (T, ..)) for built-in types -/
def isiD : D → D → (D → Prop) → Prop
  | d, .ty n, k => (typD d).isSome = true ∧ n ∈ okTys ∧ k (.bl (isiB d n))
  | d, .tup ts, k => (typD d).isSome = true ∧ ∃ l, tys? ts = some l ∧ (∀ n ∈ l, n ∈ okTys) ∧ k (.bl (l.any (isiB d)))
  | _, _, _ => False
theorem kit_any {K : PySem.W.Frag} {d : D} {t : String} (ht : typD d = some t) : ∀ (l : List String), (∀ n ∈ l, n ∈ okTys) → PySem.W.kitAny K (.type t) (l.map Value.type) = some (l.any (isiB d))
  | [], _ => rfl
  | n :: l, h => by
    have h1 := isiB_kit (K := K) ht (h n List.mem_cons_self)
    have h2 := kit_any (K := K) ht l fun m hm => h m (List.mem_cons_of_mem _ hm)
    rw [List.map_cons, List.any_cons]
    refine kitAny_cons h1 (fun e => ?_) fun e => ?_
    · rw [e]; exact h2
    · rw [e]; rfl
theorem shl_tys {M : Addr → Prop} : ∀ {l : List String} {vs : List V}, ShL g H M (l.map D.ty) vs → vs = l.map V.ty
  | [], _, h => h
  | i :: l, vs, ⟨v, r, e, a, b⟩ => by
      obtain rfl : v = V.ty i := a
      rw [e, shl_tys b]; rfl
theorem clsV_tys : ∀ l : List String, Paired ClsV (l.map V.ty) (l.map Value.type)
  | [] => .nil
  | n :: l => .cons (.ty n) (clsV_tys l)
theorem call_isiZ : CallV X (gX X xa) (.builtin "isinstance") (on2V isiD) := by
  intro pins s σ H vs us Q I rx h
  obtain ⟨d, e, x, y, Qd, rfl, hx, hy, hr, k⟩ := rdV2 h
  match e, hr, hy with
  | .ty n, hr, hy =>
    have hr' : (typD d).isSome = true ∧ n ∈ okTys ∧ Qd (.bl (isiB d n)) := by cases d <;> exact hr
    obtain ⟨h1, h2, hr⟩ := hr'
    obtain ⟨t, ht⟩ := Option.isSome_iff_exists.mp h1
    obtain rfl : y = V.ty n := hy
    exact call_isi pins s σ H _ us Q I rx ⟨x, .ty n, .type t, .type n, _, rfl, .ty n, typ_x ht hx, isiB_kit ht h2, k _ _ hr rfl⟩
  | .tup ts, hr, hy =>
    have hr' : (typD d).isSome = true ∧ ∃ l, tys? ts = some l ∧ (∀ n ∈ l, n ∈ okTys) ∧ Qd (.bl (l.any (isiB d))) := by cases d <;> exact hr
    obtain ⟨h1, l, h2, h3, hq⟩ := hr'
    obtain ⟨t, ht⟩ := Option.isSome_iff_exists.mp h1
    obtain ⟨p, xs, rfl, tp, r⟩ := hy
    obtain rfl := tys?_eq h2
    obtain rfl := shl_tys r
    rcases tp with ⟨_, tp⟩ | ⟨o, its, n, ek, c, hd, hz, rv⟩
    · exact call_isiT pins s σ H _ us Q I rx ⟨x, p, _, .type t, _, _, rfl, tp, clsV_tys l, typ_x ht hx, kit_any ht l h3, k _ _ hq rfl⟩
    · obtain ⟨oc, od, dt, sl⟩ := o
      simp only at c hd
      subst c hd
      have e2 := ClsV.all (clsV_tys l) rv
      refine call_isiK pins s σ H _ us Q I rx ⟨x, p, od, its.toList, n, sl, .type t, _, rfl, by simpa using ek, typ_x ht hx, by rw [e2]; exact kit_any ht l h3, k _ _ hq rfl⟩
end
end Z

set_option Elab.async false
set_option linter.all false
set_option maxRecDepth 100000
set_option maxHeartbeats 4000000
/-! Dp6: statements. -/
namespace Z
open PySem PySem.Spec PyProof.Rows L2
/-- what is wanted behind a statement -/
structure DEnds where
  nx : Env → Prop
  rt : Nat → D → Env → Prop
  bk : Env → Prop := fun _ => False
  ct : Env → Prop := fun _ => False
  ex : ED := fun _ _ => False
abbrev WS := DEnds → Env → Prop
/-- how many slots; which of them are not to be stored to -/
structure Io where
  N : Nat
  l : List Nat
/-- the names at io hold what they held -/
def Pn (io : Io) (pn : Nat → V) (σ : St) : Prop := σ.length = io.N ∧ ∀ i ∈ io.l, σ[i]? = some (some (pn i))
structure Conn (g : G) (W : WX) (io : Io) (pn : Nat → V) (M0 : Addr → Prop) (H : Hp) (F : List Addr) (D : DEnds) (T : Ends) : Prop where
  nx : ∀ ρ' σ' H' F', D.nx ρ' → S g M0 H' σ' ρ' F' → Pn io pn σ' → Tr H F H' F' → T.nx σ' H'
  bk : ∀ ρ' σ' H' F', D.bk ρ' → S g M0 H' σ' ρ' F' → Pn io pn σ' → Tr H F H' F' → T.bk σ' H'
  ct : ∀ ρ' σ' H' F', D.ct ρ' → S g M0 H' σ' ρ' F' → Pn io pn σ' → Tr H F H' F' → T.ct σ' H'
  rt : ∀ n d ρ' σ' v H' F', D.rt n d ρ' → S g M0 H' (σ' ++ [some v]) (ρ' ++ [some (n, d)]) F' → Pn io pn σ' → σ'.length = ρ'.length → Tr H F H' F' → T.rt v H'
  ex : ∀ x ρ' σ' H' F' cls dd, D.ex x ρ' → S g M0 H' σ' ρ' F' → Pn io pn σ' → Tr H F H' F' → XR g H' (fun a => M0 a ∨ a ∈ F') x cls dd → W cls dd σ' H'
section
variable {g : G} {W : WX} {io : Io} {pn : Nat → V} {M0 : Addr → Prop} {H H' : Hp} {F F' : List Addr} {D : DEnds} {T : Ends} {σ : St}
theorem Conn.step (c : Conn g W io pn M0 H F D T) (t : Tr H F H' F') : Conn g W io pn M0 H' F' D T where
  nx := fun ρ σ H2 F2 h s p t2 => c.nx ρ σ H2 F2 h s p (t.trans t2)
  bk := fun ρ σ H2 F2 h s p t2 => c.bk ρ σ H2 F2 h s p (t.trans t2)
  ct := fun ρ σ H2 F2 h s p t2 => c.ct ρ σ H2 F2 h s p (t.trans t2)
  rt := fun n d ρ σ v H2 F2 h s p l t2 => c.rt n d ρ σ v H2 F2 h s p l (t.trans t2)
  ex := fun x ρ σ H2 F2 cls dd h s p t2 r => c.ex x ρ σ H2 F2 cls dd h s p (t.trans t2) r
theorem Conn.lk (c : Conn g W io pn M0 H F D T) (p : Pn io pn σ) : Lk g W M0 H σ F D.ex := fun x ρ' H' F' cls dd h s t r => c.ex x ρ' σ H' F' cls dd h s p t r
def liftS (g : G) (W : WX) (io : Io) (w : WS) : TS := fun T σ H => ∃ M0 ρ F D pn, S g M0 H σ ρ F ∧ Pn io pn σ ∧ w D ρ ∧ Conn g W io pn M0 H F D T
end
def DS (X : Cx) (g : G) (W : WX) (io : Io) (st : Stmt) (w : WS) : Prop := PS X st (liftS g W io w)
def DSs (X : Cx) (g : G) (W : WX) (io : Io) (st : List Stmt) (w : WS) : Prop := PSs X st (liftS g W io w)
theorem PS.weak {X : Cx} {e : Stmt} {t t' : TS} (h : PS X e t) (w : ∀ D σ H, t' D σ H → t D σ H) : PS X e t' := ⟨fun pins s σ H D I q => h.run pins s σ H D I (w _ _ _ q)⟩
theorem PSs.weak {X : Cx} {e : List Stmt} {t t' : TS} (h : PSs X e t) (w : ∀ D σ H, t' D σ H → t D σ H) : PSs X e t' := ⟨fun pins s σ H D I q => h.run pins s σ H D I (w _ _ _ q)⟩
section
variable {X : Cx} {g : G} {W : WX} {io : Io} {st : Stmt} {rest : List Stmt} {u v : WS} {e c : Expr} {es : List Expr} {wa : WO} {wt : WT} {wr : WOs} {pos : Pos}
def wNext : WS := fun D ρ => D.nx ρ
def wSeq (u v : WS) : WS := fun D ρ => u { D with nx := v D } ρ
theorem dss_nil : DSs X g W io [] wNext := PSs.weak pss_nil fun D σ H ⟨M0, ρ, F, D', pn, s, p, hw, c⟩ => c.nx ρ σ H F hw s p Tr.refl
theorem liftS_seq {T : Ends} {σ : St} {H : Hp} (h : liftS g W io (wSeq u v) T σ H) : tSeq (liftS g W io u) (liftS g W io v) T σ H := by
  obtain ⟨M0, ρ, F, D', pn, s, p, hw, c⟩ := h
  exact ⟨M0, ρ, F, _, pn, s, p, hw, { c with nx := fun ρ1 σ1 H1 F1 h1 s1 p1 t1 => ⟨M0, ρ1, F1, D', pn, s1, p1, h1, c.step t1⟩ }⟩
theorem dss_cons (h1 : DS X g W io st u) (h2 : DSs X g W io rest v) : DSs X g W io (st :: rest) (wSeq u v) := PSs.weak (pss_cons h1 h2) fun D σ H h => liftS_seq h
theorem dss_one (h1 : DS X g W io st u) : DSs X g W io [st] u := pss_one h1
theorem ds_pass : DS X g W io (.Pass pos) wNext := PS.weak ps_pass fun D σ H ⟨M0, ρ, F, D', pn, s, p, hw, c⟩ => c.nx ρ σ H F hw s p Tr.refl
def wBreak : WS := fun D ρ => D.bk ρ
def wCont : WS := fun D ρ => D.ct ρ
theorem ds_break : DS X g W io (.Break pos) wBreak := PS.weak ps_break fun D σ H ⟨M0, ρ, F, D', pn, s, p, hw, c⟩ => c.bk ρ σ H F hw s p Tr.refl
theorem ds_continue : DS X g W io (.Continue pos) wCont := PS.weak ps_continue fun D σ H ⟨M0, ρ, F, D', pn, s, p, hw, c⟩ => c.ct ρ σ H F hw s p Tr.refl
def wExpr (wa : WO) : WS := fun D ρ => wa ρ (fun _ ρ' => D.nx ρ') D.ex
theorem ds_expr (he : DO X g W e wa) (hs : swapsWith e none pos.line X.env = pure false := by rfl) : DS X g W io (.Expr e pos) (wExpr wa) := PS.weak (ps_expr he hs) fun D σ H ⟨M0, ρ, F, D', pn, s, p, hw, c⟩ =>
  ⟨M0, ρ, F, _, _, s, hw, fun o ρ1 v H1 F1 T TD hq ho s1 l1 t1 => by
    obtain ⟨F2, s2, t2⟩ := s1.letgo l1
    exact c.nx ρ1 σ H1 F2 hq s2 p (t1.trans t2), c.lk p⟩
/-- a returned value: a name's list goes with it -/
def retV (ρ : Env) (o : Opd) (k : Nat → D → Env → Prop) : Prop := match o with
  | .tm n d => k n d ρ
  | .rf i => match ρ[i]? with
    | some (some (0, d)) => k 0 d ρ
    | some (some (n + 1, d)) => k (n + 1) d (ρ.set i none)
    | _ => False
def wRet (wa : WO) : WS := fun D ρ => wa ρ (fun o ρ' => retV ρ' o D.rt) D.ex
theorem S.ret {M0 : Addr → Prop} {H : Hp} {σ : St} {ρ : Env} {F : List Addr} {o : Opd} {v : V} {T : St} {TD : Env} {k : Nat → D → Env → Prop} (s : S g M0 H (σ ++ T) (ρ ++ TD) F) (l : σ.length = ρ.length) (ho : OpsAt σ [o] [v] T TD) (h : retV ρ o k) :
    ∃ n d ρ' F', k n d ρ' ∧ S g M0 H (σ ++ [some v]) (ρ' ++ [some (n, d)]) F' ∧ σ.length = ρ'.length ∧ Tr H F H F' := by
  cases o with
  | tm n d =>
    obtain ⟨v', r', T', TD', e1, rfl, rfl, hn⟩ := ho
    obtain ⟨rfl, rfl, rfl⟩ := hn
    injection e1 with e1 _
    subst e1
    exact ⟨n, d, ρ, F, h, s, l, Tr.refl⟩
  | rf i =>
    obtain ⟨v', r', e1, hv, hn⟩ := ho
    obtain ⟨rfl, rfl, rfl⟩ := hn
    injection e1 with e1 _
    subst e1
    rw [List.append_nil, List.append_nil] at s
    have h1 : (match ρ[i]? with
      | some (some (0, d)) => k 0 d ρ
      | some (some (n + 1, d)) => k (n + 1) d (ρ.set i none)
      | _ => False) := h
    cases e : ρ[i]? with
    | none => rw [e] at h1; exact h1.elim
    | some sl =>
      cases sl with
      | none => rw [e] at h1; exact h1.elim
      | some p =>
        obtain ⟨n, d⟩ := p
        rw [e] at h1
        obtain ⟨u, Fi, Fo, hu, pm, ow, rest⟩ := s.env.take e
        rw [hv] at hu
        cases hu
        cases n with
        | zero =>
          obtain ⟨F2, s2, t2⟩ := S.res (T := []) (TD := []) (n := 0) (d := d) (v := v) (by simpa using s) l (NewV.sh (ow_zero.mp ow).2)
          exact ⟨0, d, ρ, F2, h1, s2, l, t2⟩
        | succ n =>
          have pm2 : (Fo ++ Fi).Perm F := List.perm_append_comm.trans pm
          have en : EnvR g H (fun a => M0 a ∨ a ∈ Fo ++ Fi) [some (n + 1, d)] [some v] Fi := ⟨v, [], Fi, [], rfl, (List.append_nil _).symm, Ow.keep (fun a z => .inl (z.imp id fun z => pm2.mem_iff.mp z)) (fun _ _ e _ => e) d (n + 1) v Fi (fun _ _ _ e => e) ow, rfl, rfl⟩
          have er : EnvR g H (fun a => M0 a ∨ a ∈ Fo ++ Fi) (ρ.set i none) σ Fo := rest.less fun a z => z.imp id fun z => pm2.mem_iff.mp z
          exact ⟨n + 1, d, ρ.set i none, Fo ++ Fi, h1, ⟨er.append en, pm2.nodup_iff.mpr s.nd, fun a ha => s.dj a (pm2.mem_iff.mp ha), s.tk⟩, by rw [List.length_set]; exact l, Tr.of_perm pm2⟩
theorem ds_ret (he : DO X g W e wa) : DS X g W io (.Return (some e) pos) (wRet wa) := PS.weak (ps_ret he) fun D σ H ⟨M0, ρ, F, D', pn, s, p, hw, c⟩ =>
  ⟨M0, ρ, F, _, _, s, hw, fun o ρ1 v H1 F1 T TD hq ho s1 l1 t1 => by
    obtain ⟨n, d, ρ2, F2, h2, s2, l2, t2⟩ := s1.ret l1 ho hq
    exact c.rt n d ρ2 σ v H1 F2 h2 s2 p l2 (t1.trans t2), c.lk p⟩
def wRetN : WS := fun D ρ => D.rt 0 .non ρ
theorem ds_retN : DS X g W io (.Return none pos) wRetN := PS.weak ps_retN fun D σ H ⟨M0, ρ, F, D', pn, s, p, hw, c⟩ => by
  obtain ⟨F2, s2, t2⟩ := S.res (T := []) (TD := []) (n := 0) (d := .non) (v := .non) (by simpa using s) s.len (NewV.sh rfl)
  exact c.rt 0 .non ρ σ .non H F2 hw s2 p s.len t2
def wIfS (wt : WT) (u v : WS) : WS := fun D ρ => wt ρ (fun c ρ' => if c = true then u D ρ' else v D ρ') D.ex
theorem ds_if {a b : List Stmt} (hc : DT X g W c wt) (ha : DSs X g W io a u) (hb : DSs X g W io b v) : DS X g W io (.If c a b pos) (wIfS wt u v) := PS.weak (ps_if hc ha hb) fun D σ H ⟨M0, ρ, F, D', pn, s, p, hw, c⟩ =>
  ⟨M0, ρ, F, _, _, s, hw, fun b ρ1 H1 F1 hq s1 t1 => by
    cases b with
    | true => exact iteT ⟨M0, ρ1, F1, D', pn, s1, p, by simpa using hq, c.step t1⟩
    | false => exact iteF ⟨M0, ρ1, F1, D', pn, s1, p, by simpa using hq, c.step t1⟩, c.lk p⟩

/-! ### targets -/
/-- a target: a name's slot; names of a tuple's items -/
inductive Tgt where
  | nm (i : Nat)
  | tp (l : List Nat)
def setS (ρ : Env) : List Nat → List D → Env
  | i :: is, d :: ds => setS (ρ.set i (some (0, d))) is ds
  | _, _ => ρ
/-- the datum at the target -/
def Tgt.asg (t : Tgt) (n : Nat) (d : D) (ρ : Env) (k : Env → Prop) : Prop := match t with
  | .nm i => k (ρ.set i (some (n, d)))
  | .tp l => match d with
    | .tup ds => ds.length = l.length ∧ k (setS ρ l ds)
    | .lst ds => False ∧ k (setS ρ l ds)
    | _ => False
def Tgt.ix : Tgt → List Nat
  | .nm i => [i]
  | .tp l => l
/-- a value stored at a slot -/
theorem S.store {M0 : Addr → Prop} {H : Hp} {σ : St} {ρ : Env} {F : List Addr} {n i : Nat} {d : D} {v : V} (s : S g M0 H (σ ++ [some v]) (ρ ++ [some (n, d)]) F) (l : σ.length = ρ.length) (hi : i < ρ.length) : ∃ F', S g M0 H (σ.set i (some v)) (ρ.set i (some (n, d))) F' ∧ Tr H F H F' := by
  obtain ⟨F1, F2, rfl, e1, e2⟩ := s.env.app l
  obtain ⟨v', r', G1, G2, ev, rfl, ow, hn⟩ := e2
  obtain ⟨rfl, rfl⟩ := hn
  injection ev with ev _
  cases ev
  obtain ⟨Fi, Fo, pm, er⟩ := EnvR.drop (i := i) e1
  obtain ⟨F3, p3, q⟩ := EnvR.put (n := n) (d := d) (v := v) er (by rw [List.getElem?_set_self hi]) ow
  rw [List.set_set] at q
  have hsub : ∀ a ∈ F3, a ∈ F1 ++ (G1 ++ []) := fun a ha => by
    rcases List.mem_append.mp (p3.mem_iff.mpr ha) with y | y
    · exact List.mem_append_right _ (List.mem_append_left _ y)
    · exact List.mem_append_left _ (pm.mem_iff.mp (List.mem_append_right _ y))
  have nd : (G1 ++ Fo).Nodup := by
    obtain ⟨n1, n2, n3⟩ := List.nodup_append.mp s.nd
    have no : Fo.Nodup := (List.nodup_append.mp (pm.nodup_iff.mpr n1)).2.1
    exact List.nodup_append.mpr ⟨by simpa using n2, no, fun a ha b hb e => n3 b (pm.mem_iff.mp (List.mem_append_right _ hb)) a (List.mem_append_left _ ha) e.symm⟩
  exact ⟨F3, ⟨q.less fun a z => z.imp id (hsub a), p3.nodup_iff.mp nd, fun a ha => s.dj a (hsub a ha), s.tk⟩, Tr.sub hsub⟩
theorem Pn.set {pn : Nat → V} {σ : St} {i : Nat} {o : Option V} (p : Pn io pn σ) (h : i ∉ io.l) : Pn io pn (σ.set i o) := ⟨by rw [List.length_set]; exact p.1, fun j hj => by
  have ne : i ≠ j := fun e => h (e ▸ hj)
  rw [List.getElem?_set_ne ne]
  exact p.2 j hj⟩
/-- a target's rule in the layer: t stores; what it leaves -/
def TgOk (g : G) (io : Io) (tg : Tgt) (t : TG) : Prop := ∀ (M0 : Addr → Prop) (H : Hp) (σ : St) (ρ : Env) (F : List Addr) (n : Nat) (d : D) (v : V) (k : Env → Prop) (pn : Nat → V) (Q : St → Hp → Prop),
  S g M0 H (σ ++ [some v]) (ρ ++ [some (n, d)]) F → σ.length = ρ.length → Pn io pn σ → tg.asg n d ρ k → (∀ ρ' σ' F', k ρ' → S g M0 H σ' ρ' F' → Pn io pn σ' → Tr H F H F' → (∀ j, j ∉ tg.ix → σ'[j]? = σ[j]?) → Q σ' H) → t v σ H Q
theorem tg_name {i : Nat} (hN : i < io.N) (hio : i ∉ io.l) : TgOk g io (.nm i) (gName i) := by
  intro M0 H σ ρ F n d v k pn Q s l p h q
  obtain ⟨F', s', t'⟩ := s.store (i := i) l (by rw [← l, p.1]; exact hN)
  exact q _ _ F' h s' (p.set hio) t' fun j hj => List.getElem?_set_ne fun e => hj (by rw [← e]; exact List.mem_cons_self)
def gNames : List Nat → TGs
  | [] => gNil
  | i :: r => gCons (gName i) (gNames r)
theorem names_run : ∀ {l : List Nat} {vs : List V} {ds : List D} {M0 : Addr → Prop} {H : Hp} {σ : St} {ρ : Env} {F : List Addr} {pn : Nat → V} {Q : St → Hp → Prop}, (∀ i ∈ l, i < io.N ∧ i ∉ io.l) → S g M0 H σ ρ F → ShL g H (fun a => M0 a ∨ a ∈ F) ds vs → ds.length = l.length → Pn io pn σ →
    (∀ σ' F', S g M0 H σ' (setS ρ l ds) F' → Pn io pn σ' → Tr H F H F' → (∀ j, j ∉ l → σ'[j]? = σ[j]?) → Q σ' H) → gNames l vs σ H Q
  | [], vs, [], M0, H, σ, ρ, F, pn, Q, _, s, sh, _, p, q => ⟨sh, q σ F s p Tr.refl fun _ _ => rfl⟩
  | i :: l, vs, d :: ds, M0, H, σ, ρ, F, pn, Q, hl, s, sh, hn, p, q => by
    obtain ⟨v, r, rfl, h1, h2⟩ := sh
    obtain ⟨hi, hio⟩ := hl i List.mem_cons_self
    obtain ⟨F1, s1, t1⟩ := S.res (T := []) (TD := []) (n := 0) (d := d) (v := v) (by simpa using s) s.len (NewV.sh h1)
    obtain ⟨F2, s2, t2⟩ := s1.store (i := i) s.len (by rw [← s.len, p.1]; exact hi)
    have t12 := t1.trans t2
    refine ⟨v, r, rfl, names_run (fun j hj => hl j (List.mem_cons_of_mem _ hj)) s2 (h2.less fun a z => z.imp id fun z => (t12.new a z).elim id fun y => absurd y (s2.tracked a z)) (by simpa using hn) (p.set hio) fun σ' F' s3 p3 t3 off => q σ' F' s3 p3 (t12.trans t3) fun j hj => (off j fun z => hj (List.mem_cons_of_mem _ z)).trans (List.getElem?_set_ne fun e => hj (by rw [← e]; exact List.mem_cons_self))⟩
  | [], _, _ :: _, _, _, _, _, _, _, _, _, _, _, hn, _, _ => by cases hn
  | _ :: _, _, [], _, _, _, _, _, _, _, _, _, _, hn, _, _ => by cases hn
theorem tg_tup {l : List Nat} (hl : ∀ i ∈ l, i < io.N ∧ i ∉ io.l) : TgOk g io (.tp l) (gTup g.K l.length (gNames l)) := by
  intro M0 H σ ρ F n d v k pn Q s l1 p h q
  cases d with
  | tup ds =>
    obtain ⟨hn, hk⟩ := h
    obtain ⟨F1, F2, rfl, sa, eb⟩ := s.split l1
    obtain ⟨v', r', G1, G2, ev, rfl, ow, hn2⟩ := eb
    obtain ⟨rfl, rfl⟩ := hn2
    injection ev with ev _
    cases ev
    have sh : G1 = [] ∧ Sh g H (fun a => (M0 a ∨ a ∈ G1 ++ []) ∨ a ∈ F1) (.tup ds) v := by cases n <;> exact ow
    obtain ⟨rfl, a, vs, rfl, tp, r⟩ := sh
    have sa' : S g M0 H σ ρ F1 := sa.less0 fun a z => .inl z
    refine ⟨a, vs, rfl, tp.sq, by rw [← shl_len r]; exact hn, names_run hl sa' (r.less fun a z => z.elim (fun z => .inl (.inl z)) .inr) hn p fun σ' F' s' p' t' off => q _ σ' F' hk s' p' ?_ off⟩
    have : Tr H (F1 ++ ([] ++ [])) H F1 := Tr.sub fun a z => List.mem_append_left _ z
    exact this.trans t'
  | lst ds => exact h.1.elim
  | _ => exact h.elim

/-! ### assignments -/
/-- name = e -/
def wSet (i : Nat) (wa : WO) : WS := fun D ρ => wa ρ (fun o ρ' => toVal ρ' o fun n d ρ'' => D.nx (ρ''.set i (some (n, d)))) D.ex
def wAsg (t : Tgt) (wa : WO) : WS := fun D ρ => wa ρ (fun o ρ' => toVal ρ' o fun n d ρ'' => t.asg n d ρ'' D.nx) D.ex
/-- one operand as a value -/
theorem S.val1 {M0 : Addr → Prop} {H : Hp} {σ : St} {ρ : Env} {F : List Addr} {o : Opd} {v : V} {T : St} {TD : Env} {k : Nat → D → Env → Prop} (s : S g M0 H (σ ++ T) (ρ ++ TD) F) (l : σ.length = ρ.length) (ho : OpsAt σ [o] [v] T TD) (h : toVal ρ o k) :
    ∃ n d ρ' F', k n d ρ' ∧ S g M0 H (σ ++ [some v]) (ρ' ++ [some (n, d)]) F' ∧ σ.length = ρ'.length ∧ Tr H F H F' := by
  have h2 : toVals ρ [o] fun ds ρ' => ∃ n d, ds = [(n, d)] ∧ k n d ρ' := by
    show toVal ρ o fun n d ρ' => ∃ n' d', [(n, d)] = [(n', d')] ∧ k n' d' ρ'
    cases o with
    | tm n d => exact ⟨n, d, rfl, h⟩
    | rf i =>
      have h1 : (match ρ[i]? with
        | some (some (n, d)) => k 0 d (ρ.set i (some (0, d)))
        | _ => False) := h
      show (match ρ[i]? with
        | some (some (n, d)) => ∃ n' d', [(0, d)] = [(n', d')] ∧ k n' d' (ρ.set i (some (0, d)))
        | _ => False)
      revert h1
      cases ρ[i]? with
      | none => exact fun z => z
      | some sl =>
        cases sl with
        | none => exact fun z => z
        | some p => exact fun z => ⟨_, _, rfl, z⟩
  obtain ⟨ds, ρ', F', ⟨n, d, rfl, hk⟩, s', l', _, t'⟩ := S.vals (T0 := []) (TD0 := []) (by simpa using s) l rfl ho h2
  exact ⟨n, d, ρ', F', hk, by simpa using s', l', t'⟩
theorem asg_run {t : TG} {tg : Tgt} (ht : TgOk g io tg t) {T : Ends} {σ : St} {H : Hp} (h : liftS g W io (wAsg tg wa) T σ H) : tAsg (liftO g W wa) t T σ H := by
  obtain ⟨M0, ρ, F, D', pn, s, p, hw, c⟩ := h
  refine ⟨M0, ρ, F, _, _, s, hw, fun o ρ1 v H1 F1 T TD hq ho s1 l1 t1 => ?_, c.lk p⟩
  obtain ⟨n, d, ρ2, F2, h2, s2, l2, t2⟩ := s1.val1 l1 ho hq
  exact ht M0 H1 σ ρ2 F2 n d v _ pn _ s2 l2 p h2 fun ρ3 σ3 F3 h3 s3 p3 t3 _ => c.nx ρ3 σ3 H1 F3 h3 s3 p3 ((t1.trans t2).trans t3)
/-- the slots are as many as the names -/
theorem PS.lenN {st : Stmt} {t t' : TS} (h : PS X st t) (w : ∀ D σ H, σ.length = X.N.length → t' D σ H → t D σ H) : PS X st t' := ⟨fun pins s σ H D I q => h.run pins s σ H D I (w _ _ _ I.len q)⟩
theorem PG.weakly {tg : Expr} {t t' : TG} (h : PG X tg t) (w : ∀ v σ H Q, σ.length = X.N.length → t' v σ H Q → t v σ H Q) : PG X tg t' := ⟨fun pins s σ H v u Q I r q => h.run pins s σ H v u Q I r (w _ _ _ _ I.len q)⟩
theorem ds_set {i : Nat} {x : Str} {pos' : Pos} (hN : X.N.Nodup) (hi : X.N[i]? = some x) (hx : Loc X.env.scope x) (hio : i < io.N ∧ i ∉ io.l) (he : DO X g W e wa) (hs : swapsWith e (some (.Name x pos')) pos.line X.env = pure false := by rfl) (hf : X.fn x = true ∨ X.env.scope.names.lookup x = some .local := by first | exact .inl rfl | exact .inr rfl | assumption) :
    DS X g W io (.Assign [.Name x pos'] e pos) (wAsg (.nm i) wa) :=
  PS.weak (ps_set hN hi hx he hs hf) fun D σ H h => asg_run (tg_name hio.1 hio.2) h
theorem ds_asg {tg : Expr} {t : TG} {tt : Tgt} (he : DO X g W e wa) (hg : PG X tg t) (ht : TgOk g io tt t) (hs : swapsWithSole [tg] e pos.line X.env = pure false := by rfl) (hw : swappedStores [tg] e X.env = pure none := by rfl)
    (h1 : (assignEach [tg] X.env).map (·.2) = [assign tg X.env] := by rfl) : DS X g W io (.Assign [tg] e pos) (wAsg tt wa) :=
  PS.weak (ps_asg he hg hs hw h1) fun D σ H h => asg_run ht h
end
end Z

set_option Elab.async false
set_option linter.all false
set_option maxRecDepth 100000
set_option maxHeartbeats 4000000
/-! Dp7: what is walked; for, while; list comprehensions. -/
namespace Z
open PySem PySem.Spec PyProof.Rows L2
/-- J walks the items, whatever else is done -/
def Runs (g : G) (J : It) (items : List D) (M0 : Addr → Prop) (H : Hp) (F : List Addr) : Prop :=
  ∀ (M1 : Addr → Prop) (H' : Hp) (F' : List Addr), (∀ a, M1 a → (M0 a ∨ a ∈ F) ∨ H a = none) → Tr H F H' F' → (∀ a, M1 a ∨ a ∈ F' → H' a ≠ none) →
    (∀ i, i < items.length → J.go i H') ∧ (∀ i, items.length ≤ i → J.stop i H') ∧ ∀ i x H'', i < items.length → J.yld i H' x H'' → ∃ d, items[i]? = some d ∧ NewV g H' (fun a => M1 a ∨ a ∈ F') 0 d x H''
theorem Runs.step {g : G} {J : It} {items : List D} {M0 M1 : Addr → Prop} {H H' : Hp} {F F' : List Addr} (r : Runs g J items M0 H F) (m : ∀ a, M1 a → (M0 a ∨ a ∈ F) ∨ H a = none) (t : Tr H F H' F') : Runs g J items M1 H' F' := fun M2 H2 F2 m2 t2 tk => by
  refine r M2 H2 F2 (fun a z => ?_) (t.trans t2) tk
  rcases m2 a z with (y | y) | y
  · exact m a y
  · exact (t.new a y).imp .inr id
  · cases e : H a with
    | none => exact .inr rfl
    | some o =>
      by_cases hf : a ∈ F
      · exact .inl (.inr hf)
      · rw [t.keep a o e hf] at y; cases y
abbrev WI := Env → (List D → Env → Prop) → ED → Prop
def liftI (g : G) (W : WX) (w : WI) : TI := fun σ H R => ∃ M0 ρ F Qd Ed, S g M0 H σ ρ F ∧ w ρ Qd Ed ∧
  (∀ items ρ' J H' F1 F2, Qd items ρ' → S g (fun a => M0 a ∨ a ∈ F2) H' σ ρ' F1 → Tr H F H' (F1 ++ F2) → (∀ a, M0 a → H' a ≠ none) → Runs g J items (fun a => M0 a ∨ a ∈ F2) H' F1 → R J H') ∧ Lk g W M0 H σ F Ed
def DI (X : Cx) (g : G) (W : WX) (tg iter : Expr) (w : WI) : Prop := PI X tg iter (liftI g W w)
theorem PI.weak {X : Cx} {tg e : Expr} {t t' : TI} (h : PI X tg e t) (w : ∀ σ H Q, t' σ H Q → t σ H Q) : PI X tg e t' := ⟨fun pins s σ H Q I q => h.run pins s σ H Q I (w _ _ _ q)⟩
section
variable {X : Cx} {xa : Option (Addr × Addr)} {g : G} {W : WX} {io : Io} {tg e : Expr} {es : List Expr} {wa : WO} {wr : WOs} {pos : Pos}
/-- a list | a tuple walked: a name's list is from now on not owned -/
def wIL (wa : WO) : WI := fun ρ Q E => wa ρ (fun o ρ' => toVal ρ' o fun n d ρ'' => match d with
  | .lst ds => Q ds ρ''
  | _ => False) E
def wIT (wa : WO) : WI := fun ρ Q E => wa ρ (fun o ρ' => toVal ρ' o fun n d ρ'' => match d with
  | .tup ds => Q ds ρ''
  | _ => False) E
/-- a held temporary: what it stands for stays -/
theorem held {M0 : Addr → Prop} {H : Hp} {σ : St} {ρ : Env} {F : List Addr} {n : Nat} {d : D} {v : V} (s : S g M0 H (σ ++ [some v]) (ρ ++ [some (n, d)]) F) (l : σ.length = ρ.length) :
    ∃ F1 F2, S g (fun a => M0 a ∨ a ∈ F2) H σ ρ F1 ∧ Tr H F H (F1 ++ F2) ∧ ∀ (M1 : Addr → Prop) (H' : Hp) (F' : List Addr), (∀ a, M1 a → ((M0 a ∨ a ∈ F2) ∨ a ∈ F1) ∨ H a = none) → Tr H F1 H' F' → El g H' (fun a => M1 a ∨ a ∈ F') d v := by
  obtain ⟨F0, s0, t0⟩ := s.down (i := ρ.length) (n := n) (d := d) (m := min n 1) (by simp) (Nat.min_le_left _ _)
  rw [List.set_append_right _ _ (Nat.le_refl _), Nat.sub_self, List.set_cons_zero] at s0
  obtain ⟨F1, F2, e, s1, q⟩ := s0.split l
  rw [e] at t0 s0
  refine ⟨F1, F2, s1, t0, fun M1 H' F' m t => ?_⟩
  obtain ⟨v', r', G1, G2, ev, e2, ow, hn⟩ := q
  injection ev with ev _
  cases ev
  obtain ⟨hn1, hn2⟩ := hn
  rw [hn2, List.append_nil] at e2
  subst e2
  obtain ⟨n1, n2, n3⟩ := List.nodup_append.mp s0.nd
  exact (Ow.keep (M' := fun a => M1 a ∨ a ∈ F') (fun a z => z.elim (m a) fun z => (t.new a z).imp .inr id) (fun a o e n => t.keep a o e fun z => n (.inr z)) d (min n 1) v F2 (fun a ha o e => t.keep a o e fun z => n3 a z a ha rfl) ow).el (Nat.min_le_right _ _)
theorem di_list (ha : DO X (gX X xa) W e wa) : DI X (gX X xa) W tg e (wIL wa) := PI.weak (pi_list ha) fun σ H R h => by
  obtain ⟨M0, ρ, F, Qd, Ed, s, hw, k, lk⟩ := h
  refine ⟨M0, ρ, F, _, Ed, s, hw, fun o ρ1 v H1 F1 T TD hq ho s1 l1 t1 => ?_, lk⟩
  obtain ⟨n, d, ρ2, F2, h2, s2, l2, t2⟩ := s1.val1 l1 ho hq
  cases d with
  | lst ds =>
    obtain ⟨Fa, Fb, s3, t3, hh⟩ := held s2 l2
    obtain ⟨a, vs, rfl, hr, _⟩ := hh (fun a => M0 a ∨ a ∈ Fb) H1 Fa (fun a z => .inl (.inl z)) Tr.refl
    refine ⟨a, rfl, ⟨vs, .of hr⟩, k ds ρ2 _ H1 Fa Fb h2 s3 ((t1.trans t2).trans t3) s2.tk fun M1 H' F' m t tk => ?_⟩
    obtain ⟨b, us, eb, hr', sh⟩ := hh M1 H' F' m t
    injection eb with eb
    subst eb
    have len := shl_len sh
    refine ⟨fun i hi => ⟨us, us[i]'(by omega), .of hr', by simp⟩, fun i hi => ⟨us, .of hr', by omega⟩, fun i x H'' hi y => ?_⟩
    obtain ⟨rfl, y⟩ := y
    have yx := y us (.of hr')
    cases e : ds[i]? with
    | none => exact absurd (List.getElem?_eq_none_iff.mp e) (by omega)
    | some d =>
      obtain ⟨v, hv, sv⟩ := shl_get sh e
      rw [yx] at hv
      cases hv
      exact ⟨d, rfl, NewV.sh sv⟩
  | _ => exact h2.elim
theorem di_tup (ha : DO X (gX X xa) W e wa) : DI X (gX X xa) W tg e (wIT wa) := PI.weak (pi_tup ha) fun σ H R h => by
  obtain ⟨M0, ρ, F, Qd, Ed, s, hw, k, lk⟩ := h
  refine ⟨M0, ρ, F, _, Ed, s, hw, fun o ρ1 v H1 F1 T TD hq ho s1 l1 t1 => ?_, lk⟩
  obtain ⟨n, d, ρ2, F2, h2, s2, l2, t2⟩ := s1.val1 l1 ho hq
  cases d with
  | tup ds =>
    obtain ⟨Fa, Fb, s3, t3, hh⟩ := held s2 l2
    obtain ⟨a, vs, rfl, hr, _⟩ := hh (fun a => M0 a ∨ a ∈ Fb) H1 Fa (fun a z => .inl (.inl z)) Tr.refl
    refine ⟨a, rfl, ⟨vs, hr.sq⟩, k ds ρ2 _ H1 Fa Fb h2 s3 ((t1.trans t2).trans t3) s2.tk fun M1 H' F' m t tk => ?_⟩
    obtain ⟨b, us, eb, hr', sh⟩ := hh M1 H' F' m t
    injection eb with eb
    subst eb
    have len := shl_len sh
    refine ⟨fun i hi => ⟨us, us[i]'(by omega), hr'.sq, by simp⟩, fun i hi => ⟨us, hr'.sq, by omega⟩, fun i x H'' hi y => ?_⟩
    obtain ⟨rfl, y⟩ := y
    have yx := y us hr'.sq
    cases e : ds[i]? with
    | none => exact absurd (List.getElem?_eq_none_iff.mp e) (by omega)
    | some d =>
      obtain ⟨v, hv, sv⟩ := shl_get sh e
      rw [yx] at hv
      cases hv
      exact ⟨d, rfl, NewV.sh sv⟩
  | _ => exact h2.elim
/-- the ints of a range -/
def rngL (lo : Int) (n : Nat) : List D := (List.range n).map fun i => D.int (lo + (i : Nat))
theorem rngL_get {lo : Int} {n i : Nat} (h : i < n) : (rngL lo n)[i]? = some (D.int (lo + i)) := by
  unfold rngL
  rw [List.getElem?_map, List.getElem?_range h]; rfl
theorem rngL_len {lo : Int} {n : Nat} : (rngL lo n).length = n := by unfold rngL; simp
theorem runs_range {lo : Int} {n : Nat} {M0 : Addr → Prop} {H : Hp} {F : List Addr} : Runs g (Itr lo n) (rngL lo n) M0 H F := fun M1 H' F' m t tk => by
  rw [rngL_len]
  refine ⟨fun i hi => hi, fun i hi => hi, fun i x H'' hi y => ?_⟩
  obtain ⟨rfl, rfl⟩ := y
  exact ⟨_, rngL_get hi, NewV.sh rfl⟩
def smallI (i : Int) : Prop := -(2 ^ 62) ≤ i ∧ i < 2 ^ 62
def wIR1 (wr : WOs) : WI := fun ρ Q E => wr ρ (fun os ρ' => opnvs ρ' os fun ds => match ds with
  | [.int j] => smallI j ∧ Q (rngL 0 j.toNat) ρ'
  | _ => False) E
def wIR2 (wr : WOs) : WI := fun ρ Q E => wr ρ (fun os ρ' => opnvs ρ' os fun ds => match ds with
  | [.int i, .int j] => smallI i ∧ smallI j ∧ Q (rngL i (j - i).toNat) ρ'
  | _ => False) E
theorem di_range1 {a : Expr} {p : Pos} (hg : Gl X "range") (hm : X.mg "range" = none) (ha : DOs X g W [a] wr) (hs : starEach [a] X.env = [(false, eval a X.env)] := by rfl) : DI X g W tg (.Call (.Name "range" p) [a] [] pos) (wIR1 wr) := PI.weak (pi_range1 hg hm ha hs) fun σ H R h => by
  obtain ⟨M0, ρ, F, Qd, Ed, s, hw, k, lk⟩ := h
  refine ⟨M0, ρ, F, _, Ed, s, hw, fun os ρ1 vs H1 F1 T TD hq ho s1 l1 t1 => ?_, lk⟩
  obtain ⟨ds, hd, P⟩ := S.sees (Tx := []) (TDx := []) (T0 := []) (TD0 := []) (by simpa using s1) l1 rfl ho hq
  match ds, P, hd with
  | [.int j], .cons hj .nil, ⟨sj, hd⟩ =>
    cases hj
    obtain ⟨F2, s2, t2⟩ := s1.letgo l1
    exact ⟨j, rfl, sj.1, sj.2, k _ ρ1 _ H1 F2 [] hd (s2.less0 fun a z => z.elim id fun y => (nomatch y)) (by simpa using t1.trans t2) s2.tk runs_range⟩
theorem di_range2 {a b : Expr} {p : Pos} (hg : Gl X "range") (hm : X.mg "range" = none) (ha : DOs X g W [a, b] wr) (hs : starEach [a, b] X.env = [(false, eval a X.env), (false, eval b X.env)] := by rfl) (hs2 : starEach [b] X.env = [(false, eval b X.env)] := by rfl) :
    DI X g W tg (.Call (.Name "range" p) [a, b] [] pos) (wIR2 wr) := PI.weak (pi_range2 hg hm ha hs hs2) fun σ H R h => by
  obtain ⟨M0, ρ, F, Qd, Ed, s, hw, k, lk⟩ := h
  refine ⟨M0, ρ, F, _, Ed, s, hw, fun os ρ1 vs H1 F1 T TD hq ho s1 l1 t1 => ?_, lk⟩
  obtain ⟨ds, hd, P⟩ := S.sees (Tx := []) (TDx := []) (T0 := []) (TD0 := []) (by simpa using s1) l1 rfl ho hq
  match ds, P, hd with
  | [.int i, .int j], .cons hi (.cons hj .nil), ⟨si, sj, hd⟩ =>
    cases hi
    cases hj
    obtain ⟨F2, s2, t2⟩ := s1.letgo l1
    exact ⟨i, j, rfl, ⟨si.1, si.2, sj.1, sj.2⟩, k _ ρ1 _ H1 F2 [] hd (s2.less0 fun a z => z.elim id fun y => (nomatch y)) (by simpa using t1.trans t2) s2.tk runs_range⟩

/-! ### for -/
def forL (t : Tgt) (b : WS) (D : DEnds) : List Z.D → Env → Prop
  | [], ρ => D.nx ρ
  | x :: xs, ρ => t.asg 0 x ρ fun ρ1 => b { D with nx := forL t b D xs, ct := forL t b D xs, bk := D.nx } ρ1
def wFor (t : Tgt) (wi : WI) (b : WS) : WS := fun D ρ => wi ρ (fun items ρ' => forL t b D items ρ') D.ex
variable {wi : WI} {b : WS} {body : List Stmt} {iter : Expr}
theorem Conn.less0 {pn : Nat → V} {M0 M0' : Addr → Prop} {H : Hp} {F : List Addr} {D : DEnds} {T : Ends} (m : ∀ a, M0 a → M0' a) (c : Conn g W io pn M0 H F D T) : Conn g W io pn M0' H F D T where
  nx := fun ρ σ H2 F2 h s p t2 => c.nx ρ σ H2 F2 h (s.less0 m) p t2
  bk := fun ρ σ H2 F2 h s p t2 => c.bk ρ σ H2 F2 h (s.less0 m) p t2
  ct := fun ρ σ H2 F2 h s p t2 => c.ct ρ σ H2 F2 h (s.less0 m) p t2
  rt := fun n d ρ σ v H2 F2 h s p l t2 => c.rt n d ρ σ v H2 F2 h (s.less0 m) p l t2
  ex := fun x ρ σ H2 F2 cls dd h s p t2 r => c.ex x ρ σ H2 F2 cls dd h (s.less0 m) p t2 (r.less fun a z => z.imp (m a) id)
/-- part of F is others' from now on -/
theorem Conn.part {pn : Nat → V} {M0 : Addr → Prop} {H : Hp} {F F2 : List Addr} {D : DEnds} {T : Ends} (c : Conn g W io pn M0 H (F ++ F2) D T) : Conn g W io pn (fun a => M0 a ∨ a ∈ F2) H F D T := by
  have tr : ∀ {H' : Hp} {F' : List Addr}, Tr H F H' F' → Tr H (F ++ F2) H' F' := fun t => ⟨fun a o e n => t.keep a o e fun z => n (List.mem_append_left _ z), fun a z => (t.new a z).imp (List.mem_append_left _) id⟩
  exact { nx := fun ρ σ H2 F3 h s p t2 => c.nx ρ σ H2 F3 h (s.less0 fun a z => .inl z) p (tr t2)
          bk := fun ρ σ H2 F3 h s p t2 => c.bk ρ σ H2 F3 h (s.less0 fun a z => .inl z) p (tr t2)
          ct := fun ρ σ H2 F3 h s p t2 => c.ct ρ σ H2 F3 h (s.less0 fun a z => .inl z) p (tr t2)
          rt := fun n d ρ σ v H2 F3 h s p l t2 => c.rt n d ρ σ v H2 F3 h (s.less0 fun a z => .inl z) p l (tr t2)
          ex := fun x ρ σ H2 F3 cls dd h s p t2 r => c.ex x ρ σ H2 F3 cls dd h (s.less0 fun a z => .inl z) p (tr t2) (r.less fun a z => z.imp .inl id) }
theorem ds_for {t : TG} {tt : Tgt} (hp : PassesOwn (model X.prog X.w) X.A X.env X.xe) (hc : X.calm = true) (hi : DI X g W tg iter wi) (hg : PG X tg t) (ht : TgOk g io tt t) (hb : DSs X g W io body b) (hs : ∀ x, foldedSetIterable iter X.env x = pure x := by intro _; rfl) :
    DS X g W io (.For tg iter body [] pos) (wFor tt wi b) := PS.weak (ps_for hp hc hi hg hb hs) fun T σ H h => by
  obtain ⟨M0, ρ, F, D', pn, s, p, hw, c⟩ := h
  refine ⟨M0, ρ, F, _, _, s, hw, fun items ρ1 J H1 F1 F2 hq s1 t1 tk run => ?_, c.lk p⟩
  have c1 := (c.step t1).part
  refine ⟨fun i m σ' H' => m = items.length - i ∧ i ≤ items.length ∧ ∃ ρ' F', S g (fun a => M0 a ∨ a ∈ F2) H' σ' ρ' F' ∧ Pn io pn σ' ∧ Tr H1 F1 H' F' ∧ forL tt b D' (items.drop i) ρ', ⟨items.length, rfl, Nat.zero_le _, ρ1, F1, s1, p, Tr.refl, hq⟩, ?_⟩
  rintro i m σ2 H2 ⟨rfl, hi, ρ2, F3, s2, p2, t2, hf⟩
  obtain ⟨go, stop, yld⟩ := run (fun a => M0 a ∨ a ∈ F2) H2 F3 (fun a z => .inl (.inl z)) t2 fun a z => z.elim (s2.tk a) (s2.tracked a)
  by_cases hlt : i < items.length
  · refine .inr ⟨go i hlt, fun σ' H' => i + 1 ≤ items.length ∧ ∃ ρ' F', S g (fun a => M0 a ∨ a ∈ F2) H' σ' ρ' F' ∧ Pn io pn σ' ∧ Tr H1 F1 H' F' ∧ forL tt b D' (items.drop (i + 1)) ρ', fun σ' H' ⟨h1, h3⟩ => ⟨items.length - (i + 1), by omega, rfl, h1, h3⟩, fun x H3 y => ?_⟩
    obtain ⟨d, hd, nv⟩ := yld i x H3 hlt y
    have ed : items.drop i = d :: items.drop (i + 1) := by
      obtain ⟨h1, h2⟩ := List.getElem?_eq_some_iff.mp hd
      rw [List.drop_eq_getElem_cons h1, h2]
    rw [ed] at hf
    obtain ⟨F4, s4, t4⟩ := S.res (T := []) (TD := []) (by simpa using s2) s2.len nv
    refine ht _ H3 σ2 ρ2 F4 0 d x _ pn _ s4 s2.len p2 hf fun ρ5 σ5 F5 h5 s5 p5 t5 _ => ?_
    have t15 := ((t2.trans t4).trans t5)
    refine ⟨_, ρ5, F5, _, pn, s5, p5, h5, ?_⟩
    have c5 := c1.step t15
    have again : ∀ ρ' σ' H' F', forL tt b D' (items.drop (i + 1)) ρ' → S g (fun a => M0 a ∨ a ∈ F2) H' σ' ρ' F' → Pn io pn σ' → Tr H3 F5 H' F' → i + 1 ≤ items.length ∧ ∃ ρ' F', S g (fun a => M0 a ∨ a ∈ F2) H' σ' ρ' F' ∧ Pn io pn σ' ∧ Tr H1 F1 H' F' ∧ forL tt b D' (items.drop (i + 1)) ρ' :=
      fun ρ' σ' H' F' h s p t => ⟨hlt, ρ', F', s, p, t15.trans t, h⟩
    exact { nx := again, ct := again, bk := c5.nx, rt := c5.rt, ex := c5.ex }
  · have e : items.drop i = [] := List.drop_eq_nil_of_le (by omega)
    rw [e] at hf
    exact .inl ⟨stop i (by omega), c1.nx ρ2 σ2 H2 F3 hf s2 p2 t2⟩
end
end Z

set_option Elab.async false
set_option linter.all false
set_option maxRecDepth 100000
set_option maxHeartbeats 4000000
/-! Dp8: while; list comprehensions. -/
namespace Z
open PySem PySem.Spec PyProof.Rows L2
section
variable {X : Cx} {xa : Option (Addr × Addr)} {g : G} {W : WX} {io : Io} {tg e : Expr} {es : List Expr} {wa : WO} {wr : WOs} {pos : Pos} {wi : WI} {b : WS} {body : List Stmt} {iter c : Expr} {wt : WT}
/-- while c: an invariant with a measure -/
def wWhile (c : WT) (b : WS) : WS := fun D ρ => ∃ I : Nat → Env → Prop, (∃ m, I m ρ) ∧ ∀ m ρ, I m ρ → c ρ (fun t ρ1 => if t = true then b { D with nx := fun ρ' => ∃ m', m' < m ∧ I m' ρ', ct := fun ρ' => ∃ m', m' < m ∧ I m' ρ', bk := D.nx } ρ1 else D.nx ρ1) D.ex
theorem ds_while (hp : PassesOwn (model X.prog X.w) X.A X.env X.xe) (hc : DT X g W c wt) (hb : DSs X g W io body b) : DS X g W io (.While c body [] pos) (wWhile wt b) := PS.weak (ps_while hp hc hb) fun T σ H h => by
  obtain ⟨M0, ρ, F, D', pn, s, p, ⟨I, ⟨m0, i0⟩, step⟩, cn⟩ := h
  refine ⟨fun m σ' H' => ∃ ρ' F', S g M0 H' σ' ρ' F' ∧ Pn io pn σ' ∧ Tr H F H' F' ∧ I m ρ', ⟨m0, ρ, F, s, p, Tr.refl, i0⟩, ?_⟩
  rintro m σ1 H1 ⟨ρ1, F1, s1, p1, t1, i1⟩
  refine ⟨M0, ρ1, F1, _, _, s1, step m ρ1 i1, fun t ρ2 H2 F2 h2 s2 t2 => ?_, (cn.step t1).lk p1⟩
  have c2 := (cn.step t1).step t2
  cases t with
  | true =>
    refine iteT ⟨fun σ' H' => ∃ m', m' < m ∧ ∃ ρ' F', S g M0 H' σ' ρ' F' ∧ Pn io pn σ' ∧ Tr H F H' F' ∧ I m' ρ', fun σ' H' ⟨m', lt, q⟩ => ⟨m', lt, q⟩, ?_⟩
    have again : ∀ ρ' σ' H' F', (∃ m', m' < m ∧ I m' ρ') → S g M0 H' σ' ρ' F' → Pn io pn σ' → Tr H2 F2 H' F' → ∃ m', m' < m ∧ ∃ ρ' F', S g M0 H' σ' ρ' F' ∧ Pn io pn σ' ∧ Tr H F H' F' ∧ I m' ρ' := fun ρ' σ' H' F' ⟨m', lt, i⟩ s p t => ⟨m', lt, ρ', F', s, p, (t1.trans t2).trans t, i⟩
    exact ⟨M0, ρ2, F2, { D' with nx := fun ρ' => ∃ m', m' < m ∧ I m' ρ', ct := fun ρ' => ∃ m', m' < m ∧ I m' ρ', bk := D'.nx }, pn, s2, p1, by simpa using h2, { nx := again, ct := again, bk := c2.nx, rt := c2.rt, ex := c2.ex }⟩
  | false => exact iteF (c2.nx ρ2 σ1 H2 F2 (by simpa using h2) s2 p1 Tr.refl)

/-! ### comprehensions -/
abbrev WF : WX := fun _ _ _ _ => False
abbrev EF : ED := fun _ _ => False
theorem lkF {M0 : Addr → Prop} {H : Hp} {σ : St} {F : List Addr} : Lk g WF M0 H σ F EF := fun _ _ _ _ _ _ h => h.elim
def wipeE (ρ : Env) : List Nat → Env
  | [] => ρ
  | v :: vs => (wipeE ρ vs).set v none
theorem wipeE_len (ρ : Env) : ∀ vs : List Nat, (wipeE ρ vs).length = ρ.length
  | [] => rfl
  | v :: vs => by unfold wipeE; rw [List.length_set, wipeE_len ρ vs]
theorem wipe_get (σ : St) (i : Nat) : ∀ vs : List Nat, (wipe σ vs)[i]? = if i ∈ vs ∧ i < σ.length then some none else σ[i]?
  | [] => by simp [wipe]
  | v :: vs => by
    unfold wipe
    by_cases hi : v = i
    · subst hi
      by_cases hl : v < σ.length
      · rw [List.getElem?_set_self (by rw [wipe_length]; exact hl), if_pos ⟨List.mem_cons_self, hl⟩]
      · rw [List.getElem?_eq_none (by rw [List.length_set, wipe_length]; omega), if_neg (fun z => hl z.2), List.getElem?_eq_none (by omega)]
    · rw [List.getElem?_set_ne hi, wipe_get σ i vs]
      by_cases hm : i ∈ vs
      · simp [hm]
      · have hv : ¬ i = v := fun e => hi e.symm
        simp [hm, hv]
theorem wipeE_get (ρ : Env) (i : Nat) : ∀ vs : List Nat, (wipeE ρ vs)[i]? = if i ∈ vs ∧ i < ρ.length then some none else ρ[i]?
  | [] => by simp [wipeE]
  | v :: vs => by
    unfold wipeE
    by_cases hi : v = i
    · subst hi
      by_cases hl : v < ρ.length
      · rw [List.getElem?_set_self (by rw [wipeE_len]; exact hl), if_pos ⟨List.mem_cons_self, hl⟩]
      · rw [List.getElem?_eq_none (by rw [List.length_set, wipeE_len]; omega), if_neg (fun z => hl z.2), List.getElem?_eq_none (by omega)]
    · rw [List.getElem?_set_ne hi, wipeE_get ρ i vs]
      by_cases hm : i ∈ vs
      · simp [hm]
      · have hv : ¬ i = v := fun e => hi e.symm
        simp [hm, hv]
theorem wipe_same {σ σ2 : St} {vs : List Nat} (hl : σ2.length = σ.length) (h : ∀ j, j ∉ vs → σ2[j]? = (wipe σ vs)[j]?) : wipe σ2 vs = wipe σ vs := by
  apply List.ext_getElem?
  intro i
  rw [wipe_get, wipe_get, hl]
  by_cases hi : i ∈ vs
  · by_cases hn : i < σ.length
    · rw [if_pos ⟨hi, hn⟩, if_pos ⟨hi, hn⟩]
    · rw [if_neg fun z => hn z.2, if_neg fun z => hn z.2, List.getElem?_eq_none (by omega), List.getElem?_eq_none (by omega)]
  · rw [if_neg fun z => hi z.1, if_neg fun z => hi z.1, h i hi, wipe_get, if_neg fun z => hi z.1]
/-- names that nothing is known of may hold anything -/
theorem EnvR.congrσ {H : Hp} {M : Addr → Prop} : ∀ {ρ : Env} {σ σ' : St} {F : List Addr}, EnvR g H M ρ σ F → σ'.length = σ.length → (∀ (i : Nat) (p : Nat × D), ρ[i]? = some (some p) → σ'[i]? = σ[i]?) → EnvR g H M ρ σ' F
  | [], _, σ', _, ⟨rfl, rfl⟩, l, _ => ⟨List.eq_nil_of_length_eq_zero l, rfl⟩
  | none :: ρ, _, [], _, ⟨o, r, rfl, h⟩, l, _ => by cases l
  | none :: ρ, _, y :: σ', _, ⟨o, r, rfl, h⟩, l, k => ⟨y, σ', rfl, EnvR.congrσ h (Nat.succ.inj l) fun i p e => by simpa using k (i + 1) p (by simpa using e)⟩
  | some (n, d) :: ρ, _, [], _, ⟨v, r, F1, F2, rfl, rfl, h1, h⟩, l, _ => by cases l
  | some (n, d) :: ρ, _, y :: σ', _, ⟨v, r, F1, F2, rfl, rfl, h1, h⟩, l, k => by
    have e0 : y = some v := by simpa using k 0 (n, d) rfl
    exact ⟨v, σ', F1, F2, by rw [e0], rfl, h1, EnvR.congrσ h (Nat.succ.inj l) fun i p e => by simpa using k (i + 1) p (by simpa using e)⟩
theorem S.wipe {M0 : Addr → Prop} {H : Hp} {σ : St} {ρ : Env} {F : List Addr} (s : S g M0 H σ ρ F) : ∀ vs : List Nat, ∃ F', S g M0 H (wipe σ vs) (wipeE ρ vs) F' ∧ Tr H F H F'
  | [] => ⟨F, s, Tr.refl⟩
  | v :: vs => by
    obtain ⟨F1, s1, t1⟩ := S.wipe s vs
    obtain ⟨Fi, Fo, p, e⟩ := EnvR.drop (i := v) s1.env
    have sub : ∀ a ∈ Fo, a ∈ F1 := fun a z => p.mem_iff.mp (List.mem_append_right _ z)
    refine ⟨Fo, ⟨EnvR.congrσ (e.less fun a z => z.imp id (sub a)) (by simp [L2.wipe]) fun i q hq => ?_, (List.nodup_append.mp (p.nodup_iff.mpr s1.nd)).2.1, fun a ha => s1.dj a (sub a ha), s1.tk⟩, t1.trans (Tr.sub sub)⟩
    show ((L2.wipe σ vs).set v none)[i]? = _
    have hq : ((wipeE ρ vs).set v none)[i]? = some (some q) := hq
    by_cases hi : v = i
    · subst hi
      by_cases hl : v < (wipeE ρ vs).length
      · rw [List.getElem?_set_self hl] at hq; cases hq
      · rw [List.getElem?_eq_none (by simpa using hl)] at hq; cases hq
    · rw [List.getElem?_set_ne hi]
theorem S.unwipe {M0 : Addr → Prop} {H : Hp} {σ : St} {ρ : Env} {F : List Addr} {vs : List Nat} (s : S g M0 H (L2.wipe σ vs) ρ F) (h : ∀ i ∈ vs, ∀ p, ρ[i]? ≠ some (some p)) : S g M0 H σ ρ F :=
  ⟨EnvR.congrσ s.env (by rw [wipe_length]) fun i p e => by rw [wipe_get, if_neg fun z => h i z.1 p e], s.nd, s.dj, s.tk⟩
/-- one more object, others' -/
theorem S.fresh {M0 : Addr → Prop} {H : Hp} {σ : St} {ρ : Env} {F : List Addr} {p : Addr} {o : HO} (s : S g M0 H σ ρ F) (hp : H p = none) : S g (fun a => M0 a ∨ a = p) (upd H p o) σ ρ F := by
  have sm : Same H (upd H p o) := fun b u e => by rw [upd_ne (ne_of_none e hp)]; exact e
  refine ⟨EnvR.keep (M := fun a => M0 a ∨ a ∈ F) (fun a z => z.elim (fun z => z.elim (fun z => .inl (.inl z)) fun z => .inr (z ▸ hp)) fun z => .inl (.inr z)) (fun a o e _ => sm a o e) ρ σ F (fun a _ o e => sm a o e) s.env, s.nd, fun a ha z => z.elim (s.dj a ha) fun e => s.tracked a ha (e ▸ hp), fun a z => ?_⟩
  rcases z with z | rfl
  · cases e : H a with
    | none => exact absurd e (s.tk a z)
    | some o => rw [sm a o e]; exact fun z => nomatch z
  · rw [upd_same]; exact fun z => nomatch z
/-- others' object changed -/
theorem S.others {M0 : Addr → Prop} {H : Hp} {σ : St} {ρ : Env} {F : List Addr} {p : Addr} {o : HO} (s : S g M0 H σ ρ F) (hp : M0 p) : S g M0 (upd H p o) σ ρ F := by
  have k : ∀ a u, a ≠ p → H a = some u → upd H p o a = some u := fun a u n e => by rw [upd_ne n]; exact e
  refine ⟨EnvR.keep (M := fun a => M0 a ∨ a ∈ F) (fun a z => .inl z) (fun a u e n => k a u (fun z => n (.inl (z ▸ hp))) e) ρ σ F (fun a ha u e => k a u (fun z => s.dj a ha (z ▸ hp)) e) s.env, s.nd, s.dj, fun a z => ?_⟩
  by_cases e : a = p
  · rw [e, upd_same]; exact fun z => nomatch z
  · rw [upd_ne e]; exact s.tk a z
def wYes : WT := fun ρ Q _ => Q true ρ
def DTs (X : Cx) (g : G) (W : WX) (ifs : List Expr) (w : WT) : Prop := PTs X ifs (liftT g W w)
theorem dts_nil : DTs X g W [] wYes := ⟨fun pins s σ H Q I h => pts_nil.run pins s σ H Q I (by
  obtain ⟨M0, ρ, F, Qd, Ed, s, hw, k, _⟩ := h
  exact k true ρ H F hw s Tr.refl)⟩
theorem dts_one (h : DT X g W c wt) : DTs X g W [c] wt := pts_one h
/-- the turns of a comprehension: acc so far -/
def lcL (t : Tgt) (vs : List Nat) (wt : WT) (we : WO) (k : List D → Env → Prop) : List D → List D → Env → Prop
  | [], acc, ρ => k acc ρ
  | x :: xs, acc, ρ => t.asg 0 x ρ fun ρ1 => wt ρ1 (fun c ρ2 => if c = true then we ρ2 (fun o ρ3 => toVal ρ3 o fun _ d ρ4 => acc.length < big ∧ lcL t vs wt we k xs (acc ++ [d]) (wipeE ρ4 vs)) EF else lcL t vs wt we k xs acc (wipeE ρ2 vs)) EF
def wLc (t : Tgt) (vs : List Nat) (wi : WI) (wt : WT) (we : WO) : WO := fun ρ Q E => wi ρ (fun items ρ' => lcL t vs wt we (fun acc ρ'' => Q (.tm 1 (.lst acc)) ρ'') items [] (wipeE ρ' vs)) E
theorem PE.lenN {e : Expr} {t t' : TE} (h : PE X e t) (w : ∀ σ H Q, σ.length = X.N.length → t' σ H Q → t σ H Q) : PE X e t' := ⟨fun pins s σ H Q I q => h.run pins s σ H Q I (w _ _ _ I.len q)⟩
theorem lc_lift {t : TG} {tt : Tgt} {vs : List Nat} {we : WO} {N : Nat} (ht : TgOk g ⟨N, []⟩ tt t) (hv : ∀ i ∈ tt.ix, i ∈ vs) {σ : St} {H : Hp} {Q : VK} (lN : σ.length = N) (h : liftO g W (wLc tt vs wi wt we) σ H Q) :
    tLc (liftI g W wi) t (liftT g WF wt) (liftO g WF we) vs σ H Q := by
  obtain ⟨M0, ρ, F, Qd, Ed, s, hw, k, lk⟩ := h
  refine ⟨M0, ρ, F, _, Ed, s, hw, fun items ρ1 J H1 F1 F2 hq s1 t1 tk run p hp => ?_, lk⟩
  -- the new list is others'
  have s2 := s1.fresh (o := .lst []) hp
  obtain ⟨Fw, s3, t3⟩ := s2.wipe vs
  have np0 : ¬ (M0 p ∨ p ∈ F2) := fun z => s1.tk p z hp
  have sm : Same H1 (upd H1 p (.lst [])) := fun b u e => by rw [upd_ne (ne_of_none e hp)]; exact e
  have tA : Tr H1 F1 (upd H1 p (.lst [])) Fw := ⟨fun a o e _ => sm a o e, fun a z => (t3.new a z).imp id fun y => by
    cases e : H1 a with
    | none => rfl
    | some o => rw [sm a o e] at y; cases y⟩
  have tA' : Tr H1 F1 (upd H1 p (.lst [])) (p :: Fw) := ⟨fun a o e _ => sm a o e, fun a z => (List.mem_cons.mp z).elim (fun e => .inr (e ▸ hp)) (tA.new a)⟩
  have onP : ∀ {H' H'' : Hp} {F' F'' : List Addr}, Tr H' F' H'' F'' → Tr H' (p :: F') H'' (p :: F'') := fun t => ⟨fun a o e n => t.keep a o e fun z => n (List.mem_cons_of_mem _ z), fun a z => (List.mem_cons.mp z).elim (fun e => .inl (e ▸ List.mem_cons_self)) fun z => (t.new a z).imp (List.mem_cons_of_mem _) id⟩
  refine ⟨fun i m H' => m = items.length - i ∧ i ≤ items.length ∧ ∃ ρ' F' av ad, S g (fun a => (M0 a ∨ a ∈ F2) ∨ a = p) H' (L2.wipe σ vs) ρ' F' ∧ Tr H1 F1 H' (p :: F') ∧ H' p = some (.lst av) ∧ ShL g H' (fun a => ((M0 a ∨ a ∈ F2) ∨ a = p) ∨ a ∈ F') ad av ∧ (∀ i ∈ vs, ∀ q, ρ'[i]? ≠ some (some q)) ∧
    lcL tt vs wt we (fun acc ρ'' => Qd (.tm 1 (.lst acc)) ρ'') (items.drop i) ad ρ', ⟨items.length, rfl, Nat.zero_le _, wipeE ρ1 vs, Fw, [], [], s3, tA', upd_same, rfl, ?_, hq⟩, ?_⟩
  · intro i hi q e
    rw [wipeE_get] at e
    by_cases hl : i < ρ1.length
    · rw [if_pos ⟨hi, hl⟩] at e; cases e
    · rw [if_neg fun z => hl z.2, List.getElem?_eq_none (by omega)] at e; cases e
  rintro i m H2 ⟨rfl, hi, ρ2, F3, av, ad, s4, t4, hpv, sh, hno, hl⟩
  obtain ⟨go, stop, yld⟩ := run (fun a => (M0 a ∨ a ∈ F2) ∨ a = p) H2 F3 (fun a z => z.elim (fun z => .inl (.inl z)) fun z => .inr (z ▸ hp)) ⟨t4.keep, fun a z => t4.new a (List.mem_cons_of_mem _ z)⟩ fun a z => z.elim (s4.tk a) (s4.tracked a)
  by_cases hlt : i < items.length
  · refine .inr ⟨go i hlt, fun H' => i + 1 ≤ items.length ∧ ∃ ρ' F' av ad, S g (fun a => (M0 a ∨ a ∈ F2) ∨ a = p) H' (L2.wipe σ vs) ρ' F' ∧ Tr H1 F1 H' (p :: F') ∧ H' p = some (.lst av) ∧ ShL g H' (fun a => ((M0 a ∨ a ∈ F2) ∨ a = p) ∨ a ∈ F') ad av ∧ (∀ i ∈ vs, ∀ q, ρ'[i]? ≠ some (some q)) ∧
      lcL tt vs wt we (fun acc ρ'' => Qd (.tm 1 (.lst acc)) ρ'') (items.drop (i + 1)) ad ρ', fun H' ⟨h1, h2⟩ => ⟨items.length - (i + 1), by omega, rfl, h1, h2⟩, fun x H3 y => ?_⟩
    obtain ⟨d, hd, nv⟩ := yld i x H3 hlt y
    have ed : items.drop i = d :: items.drop (i + 1) := by
      obtain ⟨h1, h2⟩ := List.getElem?_eq_some_iff.mp hd
      rw [List.drop_eq_getElem_cons h1, h2]
    rw [ed] at hl
    obtain ⟨F4, s5, t5⟩ := S.res (T := []) (TD := []) (by simpa using s4) s4.len nv
    refine ht _ H3 (L2.wipe σ vs) ρ2 F4 0 d x _ (fun _ => .non) _ s5 s4.len ⟨by rw [wipe_length]; exact lN, fun _ z => nomatch z⟩ hl fun ρ5 σ5 F5 h5 s6 p6 t6 off => ?_
    have wsame : L2.wipe σ5 vs = L2.wipe σ vs := wipe_same (by rw [p6.1, lN]) fun j hj => off j fun z => hj (hv j z)
    refine ⟨wsame, _, ρ5, F5, _, EF, s6, h5, fun c ρ6 H4 F6 h6 s7 t7 => ?_, lkF⟩
    -- what was made stands
    have keepP : ∀ {H' : Hp} {F' : List Addr}, Tr H2 F3 H' F' → H' p = some (.lst av) ∧ ShL g H' (fun a => ((M0 a ∨ a ∈ F2) ∨ a = p) ∨ a ∈ F') ad av := fun t => ⟨t.keep p _ hpv fun z => s4.dj p z (.inr rfl), ShL.keep (M := fun a => ((M0 a ∨ a ∈ F2) ∨ a = p) ∨ a ∈ F3) (fun a z => z.elim (fun z => .inl (.inl z)) fun z => (t.new a z).imp .inr id) (fun a o e n => t.keep a o e fun z => n (.inr z)) ad av sh⟩
    have wip : ∀ (ρ' : Env), ∀ i ∈ vs, ∀ q, (wipeE ρ' vs)[i]? ≠ some (some q) := fun ρ' i hi q e => by
      rw [wipeE_get] at e
      by_cases hl : i < ρ'.length
      · rw [if_pos ⟨hi, hl⟩] at e; cases e
      · rw [if_neg fun z => hl z.2, List.getElem?_eq_none (by omega)] at e; cases e
    cases c with
    | false =>
      refine iteF ?_
      obtain ⟨F7, s8, t8⟩ := s7.wipe vs
      rw [wsame] at s8
      have tt := ((t5.trans t6).trans t7).trans t8
      obtain ⟨k1, k2⟩ := keepP tt
      exact ⟨hlt, wipeE ρ6 vs, F7, av, ad, s8, t4.trans (onP tt), k1, k2, wip _, by simpa using h6⟩
    | true =>
      refine iteT ⟨_, ρ6, F6, _, EF, s7, (by simpa using h6), fun o ρ7 v H5 F7 T TD h7 ho s8 l8 t8 => ?_, lkF⟩
      obtain ⟨n, d', ρ8, F8, ⟨hz, h8⟩, s9, l9, t9⟩ := s8.val1 l8 ho h7
      -- the item let go
      obtain ⟨F9, s10, t10⟩ := s9.down (i := ρ8.length) (n := n) (d := d') (m := 0) (by simp) (Nat.zero_le _)
      rw [List.set_append_right _ _ (Nat.le_refl _), Nat.sub_self, List.set_cons_zero] at s10
      obtain ⟨Fa, Fb, eF, sa, eb⟩ := s10.split l9
      obtain ⟨v', r', G1, G2, ev, eG, ow, hn⟩ := eb
      injection ev with ev _
      cases ev
      obtain ⟨hn1, hn2⟩ := hn
      obtain ⟨hg1, shv⟩ := ow_zero.mp ow
      rw [hg1, hn2] at eG
      have eG' : Fb = [] := eG
      subst eG'
      have sa' : S g (fun a => (M0 a ∨ a ∈ F2) ∨ a = p) H5 σ5 ρ8 Fa := sa.less0 fun a z => .inl z
      obtain ⟨Fc, sw, tw⟩ := sa'.wipe vs
      rw [wsame] at sw
      have tU : Tr H2 F3 H5 Fc := (((((t5.trans t6).trans t7).trans t8).trans t9).trans t10).trans ((by rw [eF]; exact Tr.sub fun a z => List.mem_append_left _ z : Tr H5 F9 H5 Fa).trans tw)
      obtain ⟨k1, k2⟩ := keepP tU
      have shv' : Sh g H5 (fun a => ((M0 a ∨ a ∈ F2) ∨ a = p) ∨ a ∈ Fc) d' v := shv.less fun a z => z.elim (fun z => .inl (.inl z)) fun z => .inr ((tw.new a z).elim id fun y => absurd y (sw.tracked a z))
      have lenv : ad.length = av.length := shl_len sh
      have so := sw.others (p := p) (o := .lst (av ++ [v])) (.inr rfl)
      refine ⟨av, k1, by rw [← lenv]; exact big_lt (Nat.le_of_lt hz), hlt, wipeE ρ8 vs, Fc, av ++ [v], ad ++ [d'], so, ?_, upd_same, ?_, wip _, h8⟩
      · have t2 := t4.trans (onP tU)
        exact ⟨fun a o e n => by
          have ea : a ≠ p := fun z => by rw [z, hp] at e; cases e
          rw [upd_ne ea]; exact t2.keep a o e n, t2.new⟩
      · exact shl_append (ShL.keep (M := fun a => ((M0 a ∨ a ∈ F2) ∨ a = p) ∨ a ∈ Fc) (fun a z => .inl z) (fun a o e n => by rw [upd_ne fun z => n (.inl (.inr z))]; exact e) ad av k2) ⟨v, [], rfl, Sh.keep (M := fun a => ((M0 a ∨ a ∈ F2) ∨ a = p) ∨ a ∈ Fc) (fun a z => .inl z) (fun a o e n => by rw [upd_ne fun z => n (.inl (.inr z))]; exact e) d' v shv', rfl⟩
  · have e : items.drop i = [] := List.drop_eq_nil_of_le (by omega)
    rw [e] at hl
    refine .inl ⟨stop i (by omega), ?_⟩
    have su := s4.unwipe hno
    have hm : ∀ a, (M0 a ∨ a ∈ F3 ++ [p]) → ((M0 a ∨ a ∈ F2) ∨ a = p) ∨ a ∈ F3 := fun a z => z.elim (fun z => .inl (.inl (.inl z))) fun z => (List.mem_append.mp z).elim .inr fun z => .inl (.inr (List.mem_singleton.mp z))
    have en : EnvR g H2 (fun a => M0 a ∨ a ∈ F3 ++ [p]) [some (1, .lst ad)] [some (.ref p)] [p] := ⟨.ref p, [], [p], [], rfl, rfl, ⟨p, av, [], rfl, rfl, hpv, owL_zero.mpr ⟨rfl, sh.less hm⟩⟩, rfl, rfl⟩
    have sF : S g M0 H2 (σ ++ [some (.ref p)]) (ρ2 ++ [some (1, .lst ad)]) (F3 ++ [p]) := by
      refine ⟨(su.env.less hm).append en, List.nodup_append.mpr ⟨su.nd, by simp, fun a ha b hb e => su.dj a ha (.inr (e.trans (List.mem_singleton.mp hb)))⟩, fun a ha z => ?_, fun a z => su.tk a (.inl (.inl z))⟩
      rcases List.mem_append.mp ha with y | y
      · exact su.dj a y (.inl (.inl z))
      · exact np0 (.inl (List.mem_singleton.mp y ▸ z))
    refine k (.tm 1 (.lst ad)) ρ2 (.ref p) H2 (F3 ++ [p]) [some (.ref p)] [some (1, .lst ad)] hl ⟨_, [], [], [], rfl, rfl, rfl, rfl, rfl, rfl⟩ sF (by rw [← su.len]) (t1.trans ⟨fun a o e n => t4.keep a o e fun z => n (List.mem_append_left _ z), fun a z => ?_⟩)
    exact (t4.new a ((List.mem_append.mp z).elim (List.mem_cons_of_mem _) fun y => by rw [List.mem_singleton.mp y]; exact List.mem_cons_self)).imp (List.mem_append_left _) id
end
end Z

set_option Elab.async false
set_option linter.all false
set_option maxRecDepth 100000
set_option maxHeartbeats 4000000
/-! Dp9: comprehensions as rules; what a def promises; calls; a def's body. -/
namespace Z
open PySem PySem.Spec PyProof.Rows L2
section
variable {X : Cx} {g : G} {W : WX} {io : Io} {tg e : Expr} {es : List Expr} {wa we : WO} {wr : WOs} {pos : Pos} {wi : WI} {iter : Expr} {wt : WT}
theorem do_lc {elt : Expr} {ifs : List Expr} {scope : Scope} {own : List (Str × Nat)} {t : TG} {tt : Tgt} (hc : X.calm = true) (hN : X.N.Nodup) (hi : DI X g W tg iter wi) (ok : BlkOk X.N X.env.scope scope own)
    (hg : ∀ (s : Shared) (H : Hp) (C : Addr) (cl : List (Str × Addr)) (fp : List Addr), PG (X.blk s H scope (compEnvC scope cl C X.env) fp) tg t) (ht : TgOk g ⟨X.N.length, []⟩ tt t) (hv : ∀ i ∈ tt.ix, i ∈ own.map (·.2))
    (hts : ∀ (s : Shared) (H : Hp) (C : Addr) (cl : List (Str × Addr)) (fp : List Addr), DTs (X.blk s H scope (compEnvC scope cl C X.env) fp) g WF ifs wt)
    (he : ∀ (s : Shared) (H : Hp) (C : Addr) (cl : List (Str × Addr)) (fp : List Addr), DO (X.blk s H scope (compEnvC scope cl C X.env) fp) g WF elt we) (hs : ∀ x, foldedSetIterable iter X.env x = pure x := by intro _; rfl) :
    DO X g W (.ListComp elt [⟨tg, iter, ifs, 0⟩] scope pos) (wLc tt (own.map (·.2)) wi wt we) := PE.lenN (pe_lc hc hN hi ok hg hts he hs) fun σ H Q l h => lc_lift ht hv l h
theorem ds_setLc {i : Nat} {y : Str} {py spos : Pos} {elt : Expr} {ifs : List Expr} {scope : Scope} {own : List (Str × Nat)} {t : TG} {tt : Tgt} (hc : X.calm = true) (hN : X.N.Nodup) (hy : X.N[i]? = some y) (hyl : X.env.scope.names.lookup y = some .local) (hio : i < io.N ∧ i ∉ io.l)
    (hsw : swapsWith (.ListComp elt [⟨tg, iter, ifs, 0⟩] scope pos) (some (.Name y py)) spos.line X.env = pure true) (hi : DI X g W tg iter wi) (ok : BlkOk X.N X.env.scope scope own)
    (hg : ∀ (s : Shared) (H : Hp) (C : Addr) (cl : List (Str × Addr)) (fp : List Addr), PG (X.blk s H scope (compEnvC scope cl C X.env) fp) tg t) (ht : TgOk g ⟨X.N.length, []⟩ tt t) (hv : ∀ i ∈ tt.ix, i ∈ own.map (·.2))
    (hts : ∀ (s : Shared) (H : Hp) (C : Addr) (cl : List (Str × Addr)) (fp : List Addr), DTs (X.blk s H scope (compEnvC scope cl C X.env) fp) g WF ifs wt)
    (he : ∀ (s : Shared) (H : Hp) (C : Addr) (cl : List (Str × Addr)) (fp : List Addr), DO (X.blk s H scope (compEnvC scope cl C X.env) fp) g WF elt we) (hs : ∀ x, foldedSetIterable iter X.env x = pure x := by intro _; rfl) :
    DS X g W io (.Assign [.Name y py] (.ListComp elt [⟨tg, iter, ifs, 0⟩] scope pos) spos) (wAsg (.nm i) (wLc tt (own.map (·.2)) wi wt we)) :=
  PS.lenN (ps_setLc hc hN hy hyl hsw hi ok hg hts he hs) fun T σ H l h => lc_lift ht hv l (asg_run (tg_name hio.1 hio.2) h)
end

/-! ### what a def promises -/
abbrev DSpec := List D → (Nat → D → List D → Prop) → (Exn → List D → Prop) → Prop
def argE (ms : List Nat) (ds : List D) : Env := List.zipWith (fun m d => some (m, d)) ms ds
def toSp (g : G) (ms : List Nat) (sp : DSpec) : Sp := fun vs H Q E => ∃ M0 F ds Rd Ed, vs.length = ms.length ∧ ds.length = ms.length ∧ S g M0 H (vs.map some) (argE ms ds) F ∧ sp ds Rd Ed ∧
  (∀ n d outs v H' F', Rd n d outs → outs.length = ms.length → S g M0 H' (vs.map some ++ [some v]) (argE ms outs ++ [some (n, d)]) F' → Tr H F H' F' → Q v H') ∧
  (∀ x outs cls dd H' F', Ed x outs → outs.length = ms.length → S g M0 H' (vs.map some) (argE ms outs) F' → Tr H F H' F' → XR g H' (fun a => M0 a ∨ a ∈ F') x cls dd → E cls dd H')
theorem argE_len {ms : List Nat} {ds : List D} (h : ds.length = ms.length) : (argE ms ds).length = ms.length := by unfold argE; simp [h]

/-- arguments: by value (mode 0), or a list that the def may change (mode n: owned so deep) -/
def cargs : Env → List Nat → List Opd → (List D → Env → Prop) → Prop
  | ρ, [], [], k => k [] ρ
  | ρ, 0 :: ms, .tm _ d :: os, k => cargs ρ ms os fun ds ρ' => k (d :: ds) ρ'
  | ρ, 0 :: ms, .rf i :: os, k => match ρ[i]? with
    | some (some (_, d)) => cargs (ρ.set i (some (0, d))) ms os fun ds ρ' => k (d :: ds) ρ'
    | _ => False
  | ρ, (m + 1) :: ms, .tm n d :: os, k => m + 1 ≤ n ∧ cargs ρ ms os fun ds ρ' => k (d :: ds) ρ'
  | ρ, (m + 1) :: ms, .rf i :: os, k => match ρ[i]? with
    | some (some (n, d)) => m + 1 ≤ n ∧ cargs (ρ.set i none) ms os fun ds ρ' => k (d :: ds) ρ'
    | _ => False
  | _, _, _, _ => False
/-- the names' lists behind the call -/
def outsE : Env → List Nat → List Opd → List D → Env
  | ρ, (m + 1) :: ms, .rf i :: os, d :: ds => (outsE ρ ms os ds).set i (some (m + 1, d))
  | ρ, _ :: ms, _ :: os, _ :: ds => outsE ρ ms os ds
  | ρ, _, _, _ => ρ
def wCall (ms : List Nat) (sp : DSpec) (wr : WOs) : WO := fun ρ Q E => wr ρ (fun os ρ1 => cargs ρ1 ms os fun ds ρ2 => sp ds (fun n d outs => Q (.tm n d) (outsE ρ2 ms os outs)) fun x outs => E x (outsE ρ2 ms os outs)) E
section
variable {g : G} {M0 : Addr → Prop} {H H' : Hp} {σ : St}
/-- a temporary in the middle owned less deep -/
theorem S.downT {T0 T : St} {TD0 TD : Env} {ρ : Env} {F : List Addr} {n m : Nat} {d : D} {v : V} (s : S g M0 H (σ ++ (T0 ++ some v :: T)) (ρ ++ (TD0 ++ some (n, d) :: TD)) F) (hm : m ≤ n) :
    ∃ F', S g M0 H (σ ++ (T0 ++ some v :: T)) (ρ ++ (TD0 ++ some (m, d) :: TD)) F' ∧ Tr H F H F' := by
  obtain ⟨F1, s1, t1⟩ := s.down (i := ρ.length + TD0.length) (n := n) (d := d) (m := m) (by rw [List.getElem?_append_right (by omega), List.getElem?_append_right (by omega)]; simp) hm
  refine ⟨F1, ?_, t1⟩
  rw [List.set_append_right _ _ (by omega), List.set_append_right _ _ (by omega)] at s1
  simpa using s1
theorem S.args : ∀ {ms : List Nat} {os : List Opd} {ρ : Env} {vs : List V} {T T0 : St} {TD TD0 : Env} {F : List Addr} {k : List D → Env → Prop}, S g M0 H (σ ++ (T0 ++ T)) (ρ ++ (TD0 ++ TD)) F → σ.length = ρ.length → T0.length = TD0.length → OpsAt σ os vs T TD → cargs ρ ms os k →
    ∃ ds ρ' F', k ds ρ' ∧ S g M0 H (σ ++ (T0 ++ vs.map some)) (ρ' ++ (TD0 ++ argE ms ds)) F' ∧ σ.length = ρ'.length ∧ ds.length = ms.length ∧ os.length = ms.length ∧ Tr H F H F'
  | [], [], ρ, _, _, _, _, TD0, F, k, s, l, _, ⟨rfl, rfl, rfl⟩, h => ⟨[], ρ, F, h, s, l, rfl, rfl, Tr.refl⟩
  | 0 :: ms, .tm n d :: os, ρ, _, _, T0, _, TD0, F, k, s, l, l0, hh, h => by
    obtain ⟨v, r, T', TD', rfl, rfl, rfl, ho⟩ := hh
    have h1 : cargs ρ ms os fun ds ρ' => k (d :: ds) ρ' := h
    obtain ⟨F1, s1, t1⟩ := s.downT (Nat.zero_le n)
    obtain ⟨ds, ρ', F', hk, s3, l3, l4, l5, t3⟩ := S.args (T0 := T0 ++ [some v]) (TD0 := TD0 ++ [some (0, d)]) (by simpa using s1) l (by simp [l0]) ho h1
    exact ⟨d :: ds, ρ', F', hk, by simpa [argE] using s3, l3, by simp [l4], by simp [l5], t1.trans t3⟩
  | 0 :: ms, .rf i :: os, ρ, _, T, T0, TD, TD0, F, k, s, l, l0, hh, h => by
    obtain ⟨v, r, rfl, hv, ho⟩ := hh
    have h1 : (match ρ[i]? with
      | some (some (_, d)) => cargs (ρ.set i (some (0, d))) ms os fun ds ρ' => k (d :: ds) ρ'
      | _ => False) := h
    cases e : ρ[i]? with
    | none => rw [e] at h1; exact h1.elim
    | some sl =>
      cases sl with
      | none => rw [e] at h1; exact h1.elim
      | some p =>
        obtain ⟨n, d⟩ := p
        rw [e] at h1
        have hi : i < ρ.length := (List.getElem?_eq_some_iff.mp e).1
        obtain ⟨F1, s1, t1⟩ := s.down (i := i) (n := n) (d := d) (m := 0) (by rw [List.getElem?_append_left hi, e]) (Nat.zero_le _)
        rw [List.set_append_left _ _ hi] at s1
        have l1 : σ.length = (ρ.set i (some (0, d))).length := by rw [List.length_set]; exact l
        obtain ⟨u, Fi, hu, _, ow⟩ := s1.env.at (i := i) (n := 0) (d := d) (by rw [List.getElem?_append_left (by rw [← l1, l]; exact hi), List.getElem?_set_self hi])
        rw [List.getElem?_append_left (by rw [l]; exact hi), hv] at hu
        cases hu
        obtain ⟨Fa, Fb, rfl, ea, eb⟩ := s1.env.app l1
        obtain ⟨Fc, Fd, rfl, ec, ed⟩ := eb.app l0
        have en : EnvR g H (fun a => M0 a ∨ a ∈ Fa ++ (Fc ++ Fd)) [some (0, d)] [some v] [] := ⟨v, [], [], [], rfl, rfl, ow_zero.mpr ⟨rfl, (ow_zero.mp ow).2⟩, rfl, rfl⟩
        have s2 : S g M0 H (σ ++ ((T0 ++ [some v]) ++ T)) (ρ.set i (some (0, d)) ++ ((TD0 ++ [some (0, d)]) ++ TD)) (Fa ++ (Fc ++ Fd)) := by
          have q := ea.append ((ec.append en).append ed)
          rw [List.append_nil] at q
          exact ⟨q, s1.nd, s1.dj, s1.tk⟩
        obtain ⟨ds, ρ', F', hk, s3, l3, l4, l5, t3⟩ := S.args s2 l1 (by simp [l0]) ho h1
        exact ⟨d :: ds, ρ', F', hk, by simpa [argE] using s3, l3, by simp [l4], by simp [l5], t1.trans t3⟩
  | (m + 1) :: ms, .tm n d :: os, ρ, _, _, T0, _, TD0, F, k, s, l, l0, hh, h => by
    obtain ⟨v, r, T', TD', rfl, rfl, rfl, ho⟩ := hh
    have h1 : m + 1 ≤ n ∧ cargs ρ ms os fun ds ρ' => k (d :: ds) ρ' := h
    obtain ⟨F1, s1, t1⟩ := s.downT h1.1
    obtain ⟨ds, ρ', F', hk, s3, l3, l4, l5, t3⟩ := S.args (T0 := T0 ++ [some v]) (TD0 := TD0 ++ [some (m + 1, d)]) (by simpa using s1) l (by simp [l0]) ho h1.2
    exact ⟨d :: ds, ρ', F', hk, by simpa [argE] using s3, l3, by simp [l4], by simp [l5], t1.trans t3⟩
  | (m + 1) :: ms, .rf i :: os, ρ, _, T, T0, TD, TD0, F, k, s, l, l0, hh, h => by
    obtain ⟨v, r, rfl, hv, ho⟩ := hh
    have h1 : (match ρ[i]? with
      | some (some (n, d)) => m + 1 ≤ n ∧ cargs (ρ.set i none) ms os fun ds ρ' => k (d :: ds) ρ'
      | _ => False) := h
    cases e : ρ[i]? with
    | none => rw [e] at h1; exact h1.elim
    | some sl =>
      cases sl with
      | none => rw [e] at h1; exact h1.elim
      | some p =>
        obtain ⟨n, d⟩ := p
        rw [e] at h1
        have hi : i < ρ.length := (List.getElem?_eq_some_iff.mp e).1
        obtain ⟨F1, s1, t1⟩ := s.down (i := i) (n := n) (d := d) (m := m + 1) (by rw [List.getElem?_append_left hi, e]) h1.1
        rw [List.set_append_left _ _ hi] at s1
        have l1 : σ.length = (ρ.set i (some (m + 1, d))).length := by rw [List.length_set]; exact l
        obtain ⟨Fa, Fb, rfl, ea, eb⟩ := s1.env.app l1
        obtain ⟨Fc, Fd, rfl, ec, ed⟩ := eb.app l0
        obtain ⟨u, Fi, Fo, hu, pm, ow, er⟩ := EnvR.take (i := i) (n := m + 1) (d := d) ea (by rw [List.getElem?_set_self hi])
        rw [hv] at hu
        cases hu
        rw [List.set_set] at er
        have l2 : σ.length = (ρ.set i none).length := by rw [List.length_set]; exact l
        have en : EnvR g H (fun a => M0 a ∨ a ∈ Fa ++ (Fc ++ Fd)) [some (m + 1, d)] [some v] Fi := ⟨v, [], Fi, [], rfl, (List.append_nil _).symm, ow, rfl, rfl⟩
        have pF : (Fo ++ ((Fc ++ Fi) ++ Fd)).Perm (Fa ++ (Fc ++ Fd)) := by
          have q1 : (Fo ++ ((Fc ++ Fi) ++ Fd)).Perm ((Fi ++ Fo) ++ (Fc ++ Fd)) := by
            have z1 : ((Fc ++ Fi) ++ Fd).Perm (Fi ++ (Fc ++ Fd)) := by
              rw [← List.append_assoc]
              exact (List.perm_append_comm).append_right Fd
            refine (z1.append_left Fo).trans ?_
            rw [← List.append_assoc]
            exact (List.perm_append_comm).append_right _
          exact q1.trans (pm.append_right _)
        have s2 : S g M0 H (σ ++ ((T0 ++ [some v]) ++ T)) (ρ.set i none ++ ((TD0 ++ [some (m + 1, d)]) ++ TD)) (Fo ++ ((Fc ++ Fi) ++ Fd)) :=
          ⟨(er.append ((ec.append en).append ed)).less fun a z => z.imp id fun z => pF.mem_iff.mp z, pF.nodup_iff.mpr s1.nd, fun a ha => s1.dj a (pF.mem_iff.mp ha), s1.tk⟩
        obtain ⟨ds, ρ', F', hk, s3, l3, l4, l5, t3⟩ := S.args s2 l2 (by simp [l0]) ho h1.2
        exact ⟨d :: ds, ρ', F', hk, by simpa [argE] using s3, l3, by simp [l4], by simp [l5], (t1.trans (Tr.of_perm pF)).trans t3⟩
/-- behind the call: the lists go back to their names, the rest of the arguments is let go -/
theorem S.back : ∀ {ms : List Nat} {os : List Opd} {outs : List D} {vs : List V} {ρ : Env} {P T : St} {PD TD : Env} {F : List Addr}, S g M0 H (σ ++ (P ++ vs.map some)) (ρ ++ (PD ++ argE ms outs)) F → σ.length = ρ.length → P.length = PD.length → OpsAt σ os vs T TD → outs.length = ms.length → os.length = ms.length →
    ∃ F', S g M0 H (σ ++ P) (outsE ρ ms os outs ++ PD) F' ∧ Tr H F H F' ∧ σ.length = (outsE ρ ms os outs).length
  | [], [], [], vs, ρ, P, T, PD, TD, F, s, l, lp, ho, _, _ => by
    obtain ⟨rfl, _, _⟩ := ho
    exact ⟨F, by simpa [argE, outsE] using s, Tr.refl, l⟩
  | m :: ms, o :: os, d :: outs, vs, ρ, P, T, PD, TD, F, s, l, lp, ho, ho1, ho2 => by
    have hv : ∃ v r T' TD', vs = v :: r ∧ OpsAt σ os r T' TD' ∧ ∀ i, o = .rf i → σ[i]? = some (some v) := by
      cases o with
      | rf i =>
        obtain ⟨v, r, e, hv, h⟩ := ho
        exact ⟨v, r, _, _, e, h, fun j z => by cases z; exact hv⟩
      | tm n d =>
        obtain ⟨v, r, T', TD', e, _, _, h⟩ := ho
        exact ⟨v, r, _, _, e, h, fun j z => nomatch z⟩
    obtain ⟨v, r, T', TD', rfl, ho', hrf⟩ := hv
    obtain ⟨F1, s1, t1, l1⟩ := S.back (P := P ++ [some v]) (PD := PD ++ [some (m, d)]) (vs := r) (outs := outs) (ms := ms) (by simpa [argE] using s) l (by simp [lp]) ho' (by simpa using ho1) (by simpa using ho2)
    have s1' : S g M0 H ((σ ++ P) ++ [some v]) ((outsE ρ ms os outs ++ PD) ++ [some (m, d)]) F1 := by simpa using s1
    have lx : (σ ++ P).length = (outsE ρ ms os outs ++ PD).length := by rw [List.length_append, List.length_append, l1, lp]
    match m, o, hrf with
    | 0, .rf i, _ =>
      obtain ⟨F2, s2, t2⟩ := s1'.letgo lx
      exact ⟨F2, s2, t1.trans t2, l1⟩
    | 0, .tm n d', _ =>
      obtain ⟨F2, s2, t2⟩ := s1'.letgo lx
      exact ⟨F2, s2, t1.trans t2, l1⟩
    | m + 1, .tm n d', _ =>
      obtain ⟨F2, s2, t2⟩ := s1'.letgo lx
      exact ⟨F2, s2, t1.trans t2, l1⟩
    | m + 1, .rf i, hrf =>
      have hi := hrf i rfl
      have hlt : i < σ.length := (List.getElem?_eq_some_iff.mp hi).1
      obtain ⟨F2, s2, t2⟩ := s1'.store (i := i) lx (by rw [← lx, List.length_append]; omega)
      rw [List.set_append_left _ _ hlt, set_eq hi, List.set_append_left _ _ (by rw [← l1]; exact hlt)] at s2
      exact ⟨F2, s2, t1.trans t2, by show σ.length = ((outsE ρ ms os outs).set i _).length; rw [List.length_set]; exact l1⟩
/-- parts change places -/
theorem S.swap0 {σ1 σ2 : St} {ρ1 ρ2 : Env} {F : List Addr} (s : S g M0 H (σ1 ++ σ2) (ρ1 ++ ρ2) F) (l : σ1.length = ρ1.length) : ∃ F', F'.Perm F ∧ S g M0 H (σ2 ++ σ1) (ρ2 ++ ρ1) F' := by
  obtain ⟨F1, F2, rfl, e1, e2⟩ := s.env.app l
  have p : (F2 ++ F1).Perm (F1 ++ F2) := List.perm_append_comm
  exact ⟨_, p, (e2.append e1).less (fun a z => z.imp id fun z => p.mem_iff.mp z), p.nodup_iff.mpr s.nd, fun a ha => s.dj a (p.mem_iff.mp ha), s.tk⟩
end
section
variable {X : Cx} {W : WX} {io : Io} {e : Expr} {es : List Expr} {wr : WOs} {pos p : Pos}
theorem wCall_lift {ms : List Nat} {sp : DSpec} {g : G} {σ : St} {H : Hp} {Q : VK} (h : liftO g W (wCall ms sp wr) σ H Q) : lifts g W wr σ H fun vs H1 => toSp g ms sp vs H1 Q (fun cls d H => W cls d σ H) := by
  obtain ⟨M0, ρ, F, Qd, Ed, s, hw, k, lk⟩ := h
  refine ⟨M0, ρ, F, _, Ed, s, hw, fun os ρ1 vs H1 F1 T TD hq ho s1 l1 t1 => ?_, lk⟩
  obtain ⟨ds, ρ2, F2, hs, s2, l2, l3, l4, t2⟩ := S.args (T0 := []) (TD0 := []) (by simpa using s1) l1 rfl ho hq
  rw [List.nil_append, List.nil_append] at s2
  -- the arguments alone
  obtain ⟨F3, pm, s3⟩ := s2.swap0 l2
  have lv : vs.length = ms.length := by rw [ho.lenv, l4]
  have la : (vs.map some).length = (argE ms ds).length := by rw [argE_len l3, List.length_map, lv]
  obtain ⟨Fa, Fb, rfl, sa, eb⟩ := s3.split la
  obtain ⟨n1, n2, n3⟩ := List.nodup_append.mp s3.nd
  have t12 := (t1.trans t2).trans (Tr.of_perm pm)
  refine ⟨_, Fa, ds, _, _, lv, l3, sa, hs, fun n d outs v H' F' hr lo s' t' => ?_, fun x outs cls dd H' F' hr lo s' t' xr => ?_⟩
  · have j := S.join (M0 := M0) s' eb n2 (fun a ha => s3.dj a (List.mem_append_right _ ha)) s3.tk (fun a ha hb => n3 a hb a ha rfl) t'
    have lx : (vs.map some ++ [some v]).length = (argE ms outs ++ [some (n, d)]).length := by rw [List.length_append, List.length_append, argE_len lo, List.length_map, lv]; rfl
    obtain ⟨F4, p4, s4⟩ := j.swap0 lx
    obtain ⟨F5, p5, s5⟩ := S.swap (T2 := vs.map some) (T := [some v]) (TD2 := argE ms outs) (TD := [some (n, d)]) s4 l2 (by rw [argE_len lo, List.length_map, lv])
    obtain ⟨F6, s6, t6, l6⟩ := S.back s5 l2 rfl ho lo l4
    refine k (.tm n d) _ v H' F6 [some v] [some (n, d)] hr ⟨_, [], [], [], rfl, rfl, rfl, rfl, rfl, rfl⟩ s6 l6 (t12.trans (((t'.widen (F2 := Fb)).trans (Tr.of_perm (p5.trans p4))).trans t6))
  · have j := S.join (M0 := M0) s' eb n2 (fun a ha => s3.dj a (List.mem_append_right _ ha)) s3.tk (fun a ha hb => n3 a hb a ha rfl) t'
    have lx : (vs.map some).length = (argE ms outs).length := by rw [argE_len lo, List.length_map, lv]
    obtain ⟨F4, p4, s4⟩ := j.swap0 lx
    obtain ⟨F6, s6, t6, l6⟩ := S.back (P := []) (PD := []) (by simpa using s4) l2 rfl ho lo l4
    rw [List.append_nil, List.append_nil] at s6
    refine lk x _ H' F6 cls dd hr s6 (t12.trans (((t'.widen (F2 := Fb)).trans (Tr.of_perm p4)).trans t6)) (xr.less fun a z => ?_)
    rcases z with z | z
    · exact .inl (.inl z)
    · rcases t6.new a z with y | y
      · rcases List.mem_append.mp (p4.mem_iff.mp y) with y | y
        · exact .inr y
        · exact .inl (.inr y)
      · exact absurd y (s6.tracked a z)
/-- a def, by its name: what it promises -/
structure FnZ (P : Program) (w : World) (K : PySem.W.Frag) (mg : Str → Option Value) (base : Heap) (k : Nat) (x : Str) (ms : List Nat) (sp : DSpec) : Prop where
  ex : ∃ f fd ps, FnOk P w K mg base (L2.CX P w) k f fd ps (toSp ⟨K, none⟩ ms sp) ∧ mg x = some (.ref f) ∧ PySem.W.keepIn K (.ref f) = true ∧ Binds K fd ps []
theorem do_call {k : Nat} {x : Str} {ms : List Nat} {sp : DSpec} (F : FnZ X.prog X.w X.K X.mg X.base k x ms sp) (hr : Room k X.A) (hg : Gl X x) (tk : Takes X W) (ha : DOs X ⟨X.K, none⟩ W (e :: es) wr) (hdb : (x == ("__debug__" : Str)) = false := by decide)
    (he : starEach (e :: es) X.env = (false, eval e X.env) :: starEach es X.env := by rfl) (hpl : (backTo pos (starEach es X.env)).any (·.1) = false := by rfl) : DO X ⟨X.K, none⟩ W (.Call (.Name x p) (e :: es) [] pos) (wCall ms sp wr) := by
  obtain ⟨f, fd, ps, G, hm, hk, hb⟩ := F.ex
  refine PE.weak (pe_callSD G hr hg hm hk hb .nil (fun σ => passAt tk σ) ha hdb he hpl) fun σ H Q h => ?_
  obtain ⟨M0, ρ, F, Qd, Ed, s, hw, kk, lk⟩ := wCall_lift h
  exact ⟨M0, ρ, F, Qd, Ed, s, hw, fun os ρ1 vs H1 F1 T TD hq ho s1 l1 t1 => by
    show toSp _ ms sp (vs ++ []) H1 Q _
    rw [List.append_nil]
    exact kk os ρ1 vs H1 F1 T TD hq ho s1 l1 t1, lk⟩
end

/-! ### a def's body -/
/-- what the parameters that may change hold at the end -/
def outs : List Nat → List D → Env → (List D → Prop) → Prop
  | [], [], _, k => k []
  | 0 :: ms, d :: ds, _ :: ρ, k => outs ms ds ρ fun l => k (d :: l)
  | (m + 1) :: ms, _ :: ds, some (n, d) :: ρ, k => n = m + 1 ∧ outs ms ds ρ fun l => k (d :: l)
  | _, _, _, _ => False
/-- the ends of a def's body -/
def defEnds (ms : List Nat) (ds : List D) (R : Nat → D → List D → Prop) (E : Exn → List D → Prop) : DEnds where
  nx := fun ρ => outs ms ds ρ (R 0 .non)
  rt := fun n d ρ => outs ms ds ρ (R n d)
  ex := fun x ρ => outs ms ds ρ (E x)
/-- the places of the parameters that may change -/
def ioOf : Nat → List Nat → List Nat
  | _, [] => []
  | i, 0 :: ms => ioOf (i + 1) ms
  | i, (_ + 1) :: ms => i :: ioOf (i + 1) ms
section
variable {g : G} {M0 : Addr → Prop} {H H' : Hp}
/-- the parameters' own facts at the end -/
theorem outs_ok {M : Addr → Prop} : ∀ {ms : List Nat} {ds : List D} {vs : List V} {ρ : Env} {σ : St} {F : List Addr} {j : Nat} {k : List D → Prop} {pn : Nat → V}, EnvR g H' M ρ σ F → outs ms ds ρ k → (∀ (i m : Nat) (d : D) (v : V), ms[i]? = some 0 → ds[i]? = some d → vs[i]? = some v → Sh g H' M d v) →
    (∀ i ∈ ioOf j ms, ∀ i', i = j + i' → σ[i']? = some (some (pn i))) → (∀ (i : Nat) (v : V), vs[i]? = some v → pn (j + i) = v) → vs.length = ms.length → ∃ l F1, k l ∧ l.length = ms.length ∧ F1.Sublist F ∧ EnvR g H' M (argE ms l) (vs.map some) F1
  | [], [], [], _, _, F, j, k, pn, _, h, _, _, _, _ => ⟨[], [], h, rfl, List.nil_sublist _, rfl, rfl⟩
  | 0 :: ms, d :: ds, v :: vs, s :: ρ, [], F, j, k, pn, e, h, sh, pi, pv, lv => by
    cases s with
    | none => obtain ⟨o, r, e1, _⟩ := e; cases e1
    | some p => obtain ⟨n, d⟩ := p; obtain ⟨v, r, F1, F2, e1, _⟩ := e; cases e1
  | 0 :: ms, d :: ds, v :: vs, s :: ρ, o :: σ, F, j, k, pn, e, h, sh, pi, pv, lv => by
    have h1 : outs ms ds ρ fun l => k (d :: l) := h
    have e1 : ∃ F2, F2.Sublist F ∧ EnvR g H' M ρ σ F2 := by
      cases s with
      | none =>
        obtain ⟨o', r, e1, e2⟩ := e
        injection e1 with _ e1
        subst e1
        exact ⟨F, List.Sublist.refl _, e2⟩
      | some p =>
        obtain ⟨n, d⟩ := p
        obtain ⟨v', r, F1, F2, e1, rfl, _, e2⟩ := e
        injection e1 with _ e1
        subst e1
        exact ⟨F2, List.sublist_append_right _ _, e2⟩
    obtain ⟨F2, sub, e2⟩ := e1
    obtain ⟨l, F1, hk, hl, hs, q⟩ := outs_ok (j := j + 1) (pn := pn) e2 h1 (fun i m d v h1 h2 h3 => sh (i + 1) m d v (by simpa using h1) (by simpa using h2) (by simpa using h3))
      (fun i hi i' hi' => by
        have := pi i hi (i' + 1) (by omega)
        simpa using this)
      (fun i v hv => by have := pv (i + 1) v (by simpa using hv); rw [show j + 1 + i = j + (i + 1) by omega]; exact this) (by simpa using lv)
    exact ⟨d :: l, F1, hk, by simp [hl], hs.trans sub, ⟨v, vs.map some, [], F1, rfl, rfl, ow_zero.mpr ⟨rfl, sh 0 0 d v rfl rfl rfl⟩, q⟩⟩
  | (m + 1) :: ms, d :: ds, v :: vs, some (n, d') :: ρ, σ, F, j, k, pn, e, h, sh, pi, pv, lv => by
    have h1 : n = m + 1 ∧ outs ms ds ρ fun l => k (d' :: l) := h
    obtain ⟨rfl, h1⟩ := h1
    obtain ⟨v', r, F1, F2, rfl, rfl, ow, e2⟩ := e
    have hv : v' = v := by
      have := pi j (List.mem_cons_self) 0 rfl
      have e3 := pv 0 v rfl
      rw [Nat.add_zero] at e3
      rw [e3] at this
      simpa using this
    subst hv
    obtain ⟨l, F3, hk, hl, hs, q⟩ := outs_ok (j := j + 1) (pn := pn) e2 h1 (fun i m d v h1 h2 h3 => sh (i + 1) m d v (by simpa using h1) (by simpa using h2) (by simpa using h3))
      (fun i hi i' hi' => by
        have := pi i (List.mem_cons_of_mem _ hi) (i' + 1) (by omega)
        simpa using this)
      (fun i v hv => by have := pv (i + 1) v (by simpa using hv); rw [show j + 1 + i = j + (i + 1) by omega]; exact this) (by simpa using lv)
    exact ⟨d' :: l, F1 ++ F3, hk, by simp [hl], hs.append_left F1, ⟨v', vs.map some, F1, F3, rfl, rfl, ow, q⟩⟩
  | 0 :: ms, [], vs, ρ, σ, F, j, k, pn, e, h, sh, pi, pv, lv => by cases ρ <;> exact (show False from h).elim
  | 0 :: ms, d :: ds, vs, [], σ, F, j, k, pn, e, h, sh, pi, pv, lv => (show False from h).elim
  | (m + 1) :: ms, [], vs, ρ, σ, F, j, k, pn, e, h, sh, pi, pv, lv => by cases ρ with
    | nil => exact (show False from h).elim
    | cons s ρ => cases s <;> exact (show False from h).elim
  | (m + 1) :: ms, d :: ds, vs, [], σ, F, j, k, pn, e, h, sh, pi, pv, lv => (show False from h).elim
  | (m + 1) :: ms, d :: ds, vs, none :: ρ, σ, F, j, k, pn, e, h, sh, pi, pv, lv => (show False from h).elim
  | [], d :: ds, vs, ρ, σ, F, j, k, pn, e, h, sh, pi, pv, lv => (show False from h).elim
  | m :: ms, ds, [], ρ, σ, F, j, k, pn, e, h, sh, pi, pv, lv => by cases lv
  | [], ds, v :: vs, ρ, σ, F, j, k, pn, e, h, sh, pi, pv, lv => by cases lv
/-- the end of a body is the end of the def -/
theorem S.atEnd {ms : List Nat} {ds : List D} {vs : List V} {σ : St} {ρ : Env} {F F0 : List Addr} {k : List D → Prop} {pn : Nat → V} {H0 : Hp} {TV : St} {TE : Env} (s0 : S g M0 H0 (vs.map some) (argE ms ds) F0) (lv : vs.length = ms.length) (ld : ds.length = ms.length) (t : Tr H0 F0 H F)
    (s : S g M0 H (σ ++ TV) (ρ ++ TE) F) (l : σ.length = ρ.length) (hpn : ∀ (i : Nat) (v : V), vs[i]? = some v → pn i = v) (p : ∀ i ∈ ioOf 0 ms, σ[i]? = some (some (pn i))) (h : outs ms ds ρ k) :
    ∃ ls F', k ls ∧ ls.length = ms.length ∧ S g M0 H (vs.map some ++ TV) (argE ms ls ++ TE) F' ∧ Tr H F H F' := by
  obtain ⟨F1, F2, rfl, e1, e2⟩ := s.env.app l
  have shr : ∀ (i m : Nat) (d : D) (v : V), ms[i]? = some 0 → ds[i]? = some d → vs[i]? = some v → Sh g H (fun a => M0 a ∨ a ∈ F1 ++ F2) d v := fun i m d v h1 h2 h3 => by
    have e : (argE ms ds)[i]? = some (some (0, d)) := by
      unfold argE
      rw [List.getElem?_zipWith, h1, h2]
    obtain ⟨u, Fi, hu, _, ow⟩ := s0.env.at e
    rw [List.getElem?_map, h3] at hu
    cases hu
    exact Sh.keep (M := fun a => M0 a ∨ a ∈ F0) (fun a z => z.elim (fun z => .inl (.inl z)) fun z => (t.new a z).imp .inr id) (fun a o e n => t.keep a o e fun z => n (.inr z)) d v (ow_zero.mp ow).2
  obtain ⟨ls, F3, hk, hl, hs, q⟩ := outs_ok (j := 0) (pn := pn) e1 h shr (fun i hi i' hi' => by rw [show i' = i by omega]; exact p i hi) (fun i v hv => by rw [Nat.zero_add]; exact hpn i v hv) lv
  have sub : ∀ a ∈ F3 ++ F2, a ∈ F1 ++ F2 := fun a z => (List.mem_append.mp z).elim (fun z => List.mem_append_left _ (hs.subset z)) (List.mem_append_right _)
  exact ⟨ls, F3 ++ F2, hk, hl, ⟨(q.append e2).less fun a z => z.imp id (sub a), (hs.append (List.Sublist.refl F2)).nodup s.nd, fun a ha => s.dj a (sub a ha), s.tk⟩, Tr.sub sub⟩
theorem nones {n : Nat} {M : Addr → Prop} : EnvR g H M (List.replicate n none) (List.replicate n none) [] := by
  induction n with
  | zero => exact ⟨rfl, rfl⟩
  | succ n ih => exact ⟨none, List.replicate n none, rfl, ih⟩
/-- the names at the start of a body -/
def startE (ms : List Nat) (ds : List D) (n : Nat) : Env := argE ms ds ++ List.replicate (n - ms.length) none
theorem body_lift {ms : List Nat} {sp : DSpec} {wb : WS} {N : List Str} {vs : List V} {Q : VK} {E : XK} (hN : ms.length ≤ N.length) (hsp : ∀ ds R Ed, ds.length = ms.length → sp ds R Ed → wb (defEnds ms ds R Ed) (startE ms ds N.length)) (h : toSp g ms sp vs H Q E) :
    liftS g (fun cls d _ H => E cls d H) ⟨N.length, ioOf 0 ms⟩ wb { nx := fun _ H' => Q .non H', rt := Q } (L2.start N vs) H := by
  obtain ⟨M0, F, ds, Rd, Ed, lv, ld, s, hs, hq, he⟩ := h
  have es : L2.start N vs = vs.map some ++ List.replicate (N.length - ms.length) none := by unfold L2.start; rw [lv]
  have s1 : S g M0 H (L2.start N vs) (startE ms ds N.length) F := by
    rw [es]
    have q := s.env.append (nones (g := g) (H := H) (M := fun a => M0 a ∨ a ∈ F) (n := N.length - ms.length))
    rw [List.append_nil] at q
    exact ⟨q, s.nd, s.dj, s.tk⟩
  have ios : ∀ (j : Nat) (l : List Nat), ∀ i ∈ ioOf j l, j ≤ i ∧ i < j + l.length := by
    intro j l
    induction l generalizing j with
    | nil => intro i hi; cases hi
    | cons m l ih =>
      intro i hi
      cases m with
      | zero =>
        have := ih (j + 1) i hi
        simp only [List.length_cons]
        omega
      | succ m =>
        rcases List.mem_cons.mp hi with rfl | hi
        · simp only [List.length_cons]; omega
        · have := ih (j + 1) i hi
          simp only [List.length_cons]
          omega
  refine ⟨M0, _, F, _, fun i => vs.getD i .non, s1, ⟨by rw [es, List.length_append, List.length_map, List.length_replicate, lv]; show _ = N.length; omega, fun i hi => ?_⟩, hsp ds Rd Ed ld hs, ?_⟩
  · have hb := (ios 0 ms i hi).2
    rw [Nat.zero_add] at hb
    rw [es, List.getElem?_append_left (by rw [List.length_map, lv]; exact hb), List.getElem?_map, List.getElem?_eq_getElem (by rw [lv]; exact hb)]
    simp [List.getD, List.getElem?_eq_getElem (show i < vs.length by rw [lv]; exact hb)]
  have hpn : ∀ (i : Nat) (v : V), vs[i]? = some v → vs.getD i .non = v := fun i v hv => by simp [List.getD, hv]
  refine { nx := fun ρ' σ' H' F' h s' p t => ?_, bk := fun _ _ _ _ h => h.elim, ct := fun _ _ _ _ h => h.elim, rt := fun n d ρ' σ' v H' F' h s' p l t => ?_, ex := fun x ρ' σ' H' F' cls dd h s' p t xr => ?_ }
  · obtain ⟨F1, s2, t2⟩ := S.res (T := []) (TD := []) (n := 0) (d := .non) (v := .non) (by simpa using s') s'.len (NewV.sh rfl)
    obtain ⟨ls, F2, hk, hl, s3, t3⟩ := S.atEnd s lv ld (t.trans t2) s2 s'.len hpn p.2 h
    exact hq 0 .non ls .non H' F2 hk hl s3 ((t.trans t2).trans t3)
  · obtain ⟨ls, F2, hk, hl, s3, t3⟩ := S.atEnd s lv ld t s' l hpn p.2 h
    exact hq n d ls v H' F2 hk hl s3 (t.trans t3)
  · obtain ⟨ls, F2, hk, hl, s3, t3⟩ := S.atEnd (TV := []) (TE := []) s lv ld t (by simpa using s') s'.len hpn p.2 h
    rw [List.append_nil, List.append_nil] at s3
    exact he x ls cls dd H' F2 hk hl s3 (t.trans t3) (xr.less fun a z => z.imp id fun z => (t3.new a z).elim id fun y => absurd y (s3.tracked a z))
end
section
variable {P : Program} {w : World} {K : PySem.W.Frag} {mg : Str → Option Value} {base : Heap}
/-- a def whose body is told by wb keeps its promise -/
theorem fn_ok {x qual : Str} {params : Arguments} {body : List Stmt} {scope : Scope} {dvs : List V} {kws : List (Str × V)} {f : Addr} {fd : FuncData} {N ps : List Str} {ms : List Nat} {sp : DSpec} {wb : WS} {k : Nat} (F : FunD K x qual params body scope dvs kws f fd) (Sc : FnScope N ps scope) (lp : ps.length = ms.length) (hN : ms.length ≤ N.length)
    (hb : ∀ (cdv : Value) (A : Around) (outer : List PySem.Env) (s : Shared) (H : Hp) (E : XK), Room k (A.deeper (envOfC qual scope s.heap.objs.size f cdv)) → DSs (cxOf (L2.CX P w) P w K mg base N qual scope f cdv A outer s H E) ⟨K, none⟩ (fun cls d _ H => E cls d H) ⟨N.length, ioOf 0 ms⟩ body wb)
    (hsp : ∀ ds R Ed, ds.length = ms.length → sp ds R Ed → wb (defEnds ms ds R Ed) (startE ms ds N.length)) : FnOk P w K mg base (L2.CX P w) (k + 1) f fd ps (toSp ⟨K, none⟩ ms sp) :=
  F.ok Sc (fun vs H Q E h => by obtain ⟨_, _, _, _, _, lv, _⟩ := h; rw [lv, lp]) fun cdv A outer s H vs Q E hr h => ⟨_, hb cdv A outer s H E hr, body_lift hN hsp h⟩
theorem fnZ_of {x : Str} {params : Arguments} {body : List Stmt} {scope : Scope} {f : Addr} {fd : FuncData} {N ps : List Str} {ms : List Nat} {sp : DSpec} {wb : WS} {k : Nat} (F : FunD K x x params body scope [] [] f fd) (hm : mg x = some (.ref f))
    (hbi : ∀ (kV doc pm : Value) (an : Option Addr) (cdv ct : Value) (us : List Value), us.length = ps.length → bindArgs (PySem.W.fnOf x x params body scope .none kV doc pm an cdv ct) ⟨us, []⟩ = pure (ps.zip us)) (Sc : FnScope N ps scope) (lp : ps.length = ms.length) (hN : ms.length ≤ N.length)
    (hb : ∀ (cdv : Value) (A : Around) (outer : List PySem.Env) (s : Shared) (H : Hp) (E : XK), Room k (A.deeper (envOfC x scope s.heap.objs.size f cdv)) → DSs (cxOf (L2.CX P w) P w K mg base N x scope f cdv A outer s H E) ⟨K, none⟩ (fun cls d _ H => E cls d H) ⟨N.length, ioOf 0 ms⟩ body wb)
    (hsp : ∀ ds R Ed, ds.length = ms.length → sp ds R Ed → wb (defEnds ms ds R Ed) (startE ms ds N.length)) : FnZ P w K mg base (k + 1) x ms sp :=
  ⟨⟨f, fd, ps, fn_ok F Sc lp hN hb hsp, hm, F.kp, F.bindsN hbi⟩⟩
theorem FnZ.mono {j k : Nat} {x : Str} {ms : List Nat} {sp : DSpec} (F : FnZ P w K mg base j x ms sp) (h : j ≤ k) : FnZ P w K mg base k x ms sp := by
  obtain ⟨f, fd, ps, G, r⟩ := F.ex
  exact ⟨⟨f, fd, ps, G.mono h, r⟩⟩
end
end Z

set_option Elab.async false
set_option linter.all false
set_option maxRecDepth 100000
set_option maxHeartbeats 4000000
/-! Dp10: a try with clauses that name and clauses that don't. -/
namespace Z
open PySem PySem.Spec PyProof.Rows L2
/-- one clause as it is told: its class, the slot of its name, its suite -/
abbrev Clause := Value × Option Nat × (Addr → Value → Option Addr → TS)
/-- ends behind which the clause's name is gone -/
def gone (D : Ends) : Option Nat → Ends
  | none => D
  | some i => ⟨fun s h => D.nx (s.set i none) h, D.rt, fun s h => D.bk (s.set i none) h, fun s h => D.ct (s.set i none) h⟩
def named (σ : St) (a : Addr) : Option Nat → St
  | none => σ
  | some i => σ.set i (some (.ref a))
/-- what the clauses wish of what the body raises -/
def wish (K : PySem.W.Frag) (out : WX) (D : Ends) : List Clause → WX
  | [] => out
  | (c, o, ts) :: r => fun cls d σ H => ∃ b, PySem.W.exmOne K cls c = some b ∧ (b = true → ∀ a, H a = none → ts a cls d (gone D o) (named σ a o) H) ∧ (b = false → wish K out D r cls d σ H)
/-- the clauses of the text -/
inductive Clauses (X : Cx) : List ExceptHandler → List Clause → Prop
  | nil : Clauses X [] []
  | bare {x : Str} {c : Value} {ts : Addr → Value → Option Addr → TS} {st : Stmt} {sts : List Stmt} {p q : Pos} {hs : List ExceptHandler} {l : List Clause} (nm : Names X x c)
      (run : ∀ a oe cls d pn, Zc cls d oe → (∃ vs, oe.data = .fields vs) → PSs (X.suite a ((a, oe) :: pn)) (st :: sts) (ts a cls d)) (more : Clauses X hs l) : Clauses X (.ExceptHandler (some (.Name x p)) none (st :: sts) q :: hs) ((c, none, ts) :: l)
  | as {x n : Str} {i : Nat} {c : Value} {ts : Addr → Value → Option Addr → TS} {st : Stmt} {sts : List Stmt} {p q : Pos} {hs : List ExceptHandler} {l : List Clause} (nm : Names X x c) (hN : X.N.Nodup) (hi : X.N[i]? = some n) (hl : X.env.kindOf n = some .local)
      (run : ∀ a oe cls d pn, Zc cls d oe → (∃ vs, oe.data = .fields vs) → PSs (X.suite a ((a, oe) :: pn)) (st :: sts) (ts a cls d)) (more : Clauses X hs l) : Clauses X (.ExceptHandler (some (.Name x p)) (some n) (st :: sts) q :: hs) ((c, some i, ts) :: l)
/-- an exception a of the class cls that has come to this frame -/
structure Come (X : Cx) (pins : List (Addr × Obj)) (B : Heap) (a : Addr) (cls : Value) (d : Option Addr) (sI : Shared) (σ : St) (H : Hp) (s : Shared) : Prop where
  inv : Inv X pins σ H sI
  stk : X.stack = X.env :: X.outer
  frm : X.env.frame = some X.env.locals
  nb : ∀ b o, sI.heap.get? b = some o → b ∉ frs X.stack → B.get? b = some o
  up : sI.heap.UpToSlots s.heap
  na : H a = none
  os : s.os = sI.os
  ag : AllBare s.gens
section
variable {X : Cx} {pins : List (Addr × Obj)} {B : Heap} {a : Addr} {cls : Value} {d : Option Addr} {sI s : Shared} {σ : St} {H : Hp} {D : Ends} {out : WX} {Z : Obj → Prop}
/-- it lies in no frame -/
theorem off_frames {h : Heap} {o : Obj} {vs : Array Value} (stk : X.stack = X.env :: X.outer) (frm : X.env.frame = some X.env.locals) (ff : h.FunFrames B (X.env :: X.outer)) (e : h.get? a = some o) (dt : o.data = .fields vs) : a ≠ X.env.locals ∧ a ∉ X.fs := by
  have no : a ∉ frs (X.env :: X.outer) := fun z => by
    obtain ⟨_, o2, e2, n2⟩ := ff.mem z
    cases e.symm.trans e2
    exact n2 _ dt
  constructor
  · rintro rfl
    exact no (List.mem_filterMap.mpr ⟨_, .head _, frm⟩)
  · intro z
    obtain ⟨en, h1, h2⟩ := List.mem_filterMap.mp z
    exact no (List.mem_filterMap.mpr ⟨en, .tail _ h1, h2⟩)
/-- the frame's own state, at the exception -/
theorem Come.back (c : Come X pins B a cls d sI σ H s) {h : Heap} (st : B.StaysIn h) (up : s.heap.UpToSlots h) : Inv X pins σ H { s with heap := h } := c.inv.landed c.nb st (c.up.trans up) c.os c.ag
theorem clauses_run (c : Come X pins B a cls d sI σ H s) (tk : Takes X out) : ∀ {hs : List ExceptHandler} {l : List Clause} {h : Heap}, Clauses X hs l → HandSPX.FlyingZ B (X.env :: X.outer) a (Zc cls d) h → s.heap.UpToSlots h → wish X.K out D l cls d σ H →
    wpAny (model X.prog X.w) X.A (handleBy (.ref a) X.env hs) (SP X pins D) X.xe { s with heap := h } := by
  -- no clause more: it goes on
  have pass : ∀ {h : Heap}, HandSPX.FlyingZ B (X.env :: X.outer) a (Zc cls d) h → s.heap.UpToSlots h → out cls d σ H → wpAny (model X.prog X.w) X.A (handleBy (.ref a) X.env []) (SP X pins D) X.xe { s with heap := h } := by
    intro h fl up w
    apply wpAny_handleBy_nil
    obtain ⟨_, _, _, o, vs, t, _, _, e, _, dt, at1, _⟩ := id fl
    unfold PySem.passOn
    apply wpAny_bind
    apply wpAny_field e dt at1
    have ne : ¬ ((Value.ref t == Value.none) = true) := by simp
    rw [if_neg ne, c.frm]
    have last : wpAny (model X.prog X.w) X.A (setFlight (.ref a) (some X.env.locals)) (fun _ z => wpAny (model X.prog X.w) X.A (throw (.ref a) : Sem Flow) (SP X pins D) X.xe z) X.xe { s with heap := h } :=
      HandSPX.setFlight_upZ fl fun h2 held up2 => wpAny_throw (tk _ _ ⟨a, B, sI, pins, σ, H, cls, d, rfl, c.inv, c.nb, c.up.trans (up.trans up2), .inr (.inr (by rw [c.stk]; exact held)), c.na, c.os, c.ag, w⟩)
    first
      | exact wpAny_bind last
      | exact wpAny_bind (wpAny_pure (wpAny_bind last))
  -- a clause's class is read, the exception held against it
  have ask : ∀ {x : Str} {cl : Value} {b : Bool} {h : Heap} {p : Pos} {Q : Value → Shared → Prop} {E : Value → Shared → Prop}, Names X x cl → HandSPX.FlyingZ B (X.env :: X.outer) a (Zc cls d) h → s.heap.UpToSlots h → Q cl { s with heap := h } →
      wpAny (model X.prog X.w) (X.A.mark (some (.ref a))) (eval (.Name x p) X.env) Q E { s with heap := h } := by
    intro x cl b h p Q E nm fl up q
    obtain ⟨o, vs, e, _, dt⟩ := fl.there
    obtain ⟨n1, n2⟩ := off_frames c.stk c.frm fl.2.2.1 e dt
    have J := (c.back fl.1 up).suite e dt c.na n1 n2
    rcases nm with ⟨gl, nd, m | ⟨m, bi, nn⟩⟩
    · exact ld_glob (X := X.suite a ((a, o) :: (X.pn ++ pins))) J gl m q nd
    · exact ld_blt (X := X.suite a ((a, o) :: (X.pn ++ pins))) J gl m bi q nn nd
  have hold : ∀ {cl : Value} {b : Bool} {h : Heap}, HandSPX.FlyingZ B (X.env :: X.outer) a (Zc cls d) h → s.heap.UpToSlots h → PySem.W.exmOne X.K cls cl = some b → PySem.W.Looks (model X.prog X.w) h (typeOf (.ref a)) cls ∧ X.K.In h := by
    intro cl b h fl up _
    obtain ⟨o, vs, e, z, _⟩ := fl.there
    exact ⟨fun _ _ _ _ k q => wpAny_typeOf_ref (k _ _ e) (by rw [z.1]; exact q), (c.back fl.1 up).kIn⟩
  intro hs l h cs
  induction cs generalizing h with
  | nil => exact pass
  | @bare x cl ts st sts p q hs l nm run more ih =>
    intro fl up ⟨b, hb, yes, no⟩
    obtain ⟨lt, kin⟩ := hold fl up hb
    refine wpAny_handleBy_cons (codeAny_handlers_test (ask (b := b) nm fl up ((PySem.W.exm_one (M := model X.prog X.w) kin lt hb).here ?_))) (fun z => nomatch z)
    cases b with
    | false => exact ih fl up (no rfl)
    | true =>
      refine codeAny_handlers_suite (HandSPX.lands_againZ fl fun h2 fl2 up2 => ?_)
      obtain ⟨o, vs, e, z, dt⟩ := fl2.there
      obtain ⟨n1, n2⟩ := off_frames c.stk c.frm fl2.2.2.1 e dt
      have J := (c.back fl2.1 (up.trans up2)).suite e dt c.na n1 n2
      refine wpAny_mono ((run a o cls d _ z ⟨_, dt⟩).run [] _ _ H _ J (yes rfl a c.na)) (fun f s3 r => ?_) (fun _ _ z => z.elim)
      cases f with
      | ret u => obtain ⟨v, σ3, H3, I3, rv, q⟩ := r; exact ⟨v, σ3, H3, I3.unsuite c.inv.ok, rv, q⟩
      | next => obtain ⟨σ3, H3, I3, q⟩ := r; exact ⟨σ3, H3, I3.unsuite c.inv.ok, q⟩
      | brk => obtain ⟨σ3, H3, I3, q⟩ := r; exact ⟨σ3, H3, I3.unsuite c.inv.ok, q⟩
      | cont => obtain ⟨σ3, H3, I3, q⟩ := r; exact ⟨σ3, H3, I3.unsuite c.inv.ok, q⟩
  | @as x n i cl ts st sts p q hs l nm hN hi hl run more ih =>
    intro fl up ⟨b, hb, yes, no⟩
    obtain ⟨lt, kin⟩ := hold fl up hb
    refine wpAny_handleBy_cons (codeAny_handlers_test (ask (b := b) nm fl up ((PySem.W.exm_one (M := model X.prog X.w) kin lt hb).here ?_))) (fun z => nomatch z)
    cases b with
    | false => exact ih fl up (no rfl)
    | true =>
      refine codeAny_handlers_suite_as (HandSPX.lands_againZ fl fun h2 fl2 up2 => ?_)
      obtain ⟨o, vs, e, z, dt⟩ := fl2.there
      obtain ⟨n1, n2⟩ := off_frames c.stk c.frm fl2.2.2.1 e dt
      have J := (c.back fl2.1 (up.trans up2)).suite e dt c.na n1 n2
      have hloc : Loc X.env.scope n := .inl hl
      refine store_ok (X := X.suite a ((a, o) :: (X.pn ++ pins))) (v := .ref a) J hN hi hloc rfl (fun s4 J4 => ?_) (.inr hl)
      refine wpAny_mono ((run a o cls d _ z ⟨_, dt⟩).run [] s4 _ H _ J4 (yes rfl a c.na)) (fun f s3 r => ?_) (fun _ _ z => z.elim)
      cases f with
      | ret u => obtain ⟨v, σ3, H3, I3, rv, q⟩ := r; exact gone_ok (I3.unsuite c.inv.ok) hN hi hl fun s5 I5 => ⟨v, _, H3, I5, rv, q⟩
      | next => obtain ⟨σ3, H3, I3, q⟩ := r; exact gone_ok (I3.unsuite c.inv.ok) hN hi hl fun s5 I5 => ⟨_, H3, I5, q⟩
      | brk => obtain ⟨σ3, H3, I3, q⟩ := r; exact gone_ok (I3.unsuite c.inv.ok) hN hi hl fun s5 I5 => ⟨_, H3, I5, q⟩
      | cont => obtain ⟨σ3, H3, I3, q⟩ := r; exact gone_ok (I3.unsuite c.inv.ok) hN hi hl fun s5 I5 => ⟨_, H3, I5, q⟩
theorem try_clauses {body : List Stmt} {h0 : ExceptHandler} {hs : List ExceptHandler} {l : List Clause} {pos : Pos} {tb : WX → TS} (stk : X.stack = X.env :: X.outer) (frm : X.env.frame = some X.env.locals) (tk : Takes X out)
    (hb : ∀ (W : WX) (pn : List (Addr × Obj)) (xe : Value → Shared → Prop), Takes (X.tr pn xe) W → PassesOwn (model X.prog X.w) X.A X.env xe → PSs (X.tr pn xe) body (tb W)) (cs : Clauses X (h0 :: hs) l) :
    PS X (.Try body (h0 :: hs) [] [] pos) (fun D σ H => tb (wish X.K out D l) D σ H) := by
  constructor
  intro pins s σ H D I h
  have fr : X.A.frames = some (X.env :: X.outer) := I.ok.frames.trans (congrArg some stk)
  apply wpAny_Try_except
  have took : Takes (X.tr (X.pn ++ pins) fun e z => wpAny (model X.prog X.w) X.A (noteFrame e X.env) (fun _ z2 => wpAny (model X.prog X.w) X.A (setFlight e none) (fun _ z3 => wpAny (model X.prog X.w) X.A (handleBy e X.env (h0 :: hs)) (SP X pins D) X.xe z3) X.xe z2) X.xe z) (wish X.K out D l) := by
    intro u s1 x
    obtain ⟨a, B, sI, _, σ1, H1, cls, d, rfl, J, nb, up, sky, na, os, ag, w⟩ := x
    have sky2 : Sky B (X.env :: X.outer) a (Zc cls d) X.env.locals s1.heap := by rw [← stk]; exact sky
    have c : Come X pins B a cls d sI σ1 H1 s1 := ⟨J.ofTry I.ok, stk, frm, nb, up, na, os, ag⟩
    exact Sky.land Zc.steady fr frm sky2 fun h2 fl up2 => clauses_run c tk cs fl up2 w
  refine wpAny_mono ((hb _ _ _ took PassesOwn.looking).run [] s σ H D (I.toTry _) h) (fun f s1 r => ?_) (fun _ _ z => z)
  cases f with
  | ret u => obtain ⟨v, σ3, H3, I3, rv, q⟩ := r; exact ⟨v, σ3, H3, I3.ofTry I.ok, rv, q⟩
  | next => obtain ⟨σ3, H3, I3, q⟩ := r; exact wpAny_execs_nil ⟨σ3, H3, I3.ofTry I.ok, q⟩
  | brk => obtain ⟨σ3, H3, I3, q⟩ := r; exact ⟨σ3, H3, I3.ofTry I.ok, q⟩
  | cont => obtain ⟨σ3, H3, I3, q⟩ := r; exact ⟨σ3, H3, I3.ofTry I.ok, q⟩
end
end Z

set_option Elab.async false
set_option linter.all false
set_option maxRecDepth 100000
set_option maxHeartbeats 4000000
/-! Dp11: try, raise, a caught error's fields. -/
namespace Z
open PySem PySem.Spec PyProof.Rows L2
mutual
/-- no caught error within -/
def noX : D → Bool
  | .xr _ _ _ => false
  | .tup ds => noXL ds
  | .lst ds => noXL ds
  | .scr ds => noXL ds
  | .ins _ _ ds => noXL ds
  | _ => true
def noXL : List D → Bool
  | [] => true
  | d :: ds => noX d && noXL ds
end
def noXs : Slot → Bool
  | none => true
  | some (_, d) => noX d
section
variable {K : PySem.W.Frag} {xa : Option (Addr × Addr)} {H : Hp} {M : Addr → Prop}
mutual
theorem Sh.noX : ∀ (d : D) (v : V), Sh ⟨K, none⟩ H M d v → Z.noX d = true
  | .xr _ _ _, _, h => by obtain ⟨_, _, _, e, _⟩ := h; cases e
  | .tup ds, _, h => by obtain ⟨_, vs, _, _, r⟩ := h; exact ShL.noX ds vs r
  | .lst ds, _, h => by obtain ⟨_, vs, _, _, r⟩ := h; exact ShL.noX ds vs r
  | .scr ds, _, h => by obtain ⟨_, vs, _, _, r⟩ := h; exact ShL.noX ds vs r
  | .ins _ _ ds, _, h => by obtain ⟨_, _, vs, _, _, _, _, r⟩ := h; exact ShL.noX ds vs r
  | .non, _, _ => rfl
  | .bl _, _, _ => rfl
  | .int _, _, _ => rfl
  | .str _, _, _ => rfl
  | .ty _, _, _ => rfl
  | .cls _, _, _ => rfl
theorem ShL.noX : ∀ (ds : List D) (vs : List V), ShL ⟨K, none⟩ H M ds vs → noXL ds = true
  | [], _, _ => rfl
  | d :: ds, _, h => by
    obtain ⟨v, r, _, h1, h2⟩ := h
    show (Z.noX d && noXL ds) = true
    rw [Sh.noX d v h1, ShL.noX ds r h2]; rfl
end
mutual
theorem Sh.toXa {g g' : G} (hK : g.K = g'.K) : ∀ (d : D) (v : V), Z.noX d = true → Sh g H M d v → Sh g' H M d v
  | .xr _ _ _, _, n, _ => by cases n
  | .tup ds, _, n, h => by obtain ⟨a, vs, e, t, r⟩ := h; exact ⟨a, vs, e, hK ▸ t, ShL.toXa hK ds vs n r⟩
  | .lst ds, _, n, h => by obtain ⟨a, vs, e, t, r⟩ := h; exact ⟨a, vs, e, hK ▸ t, ShL.toXa hK ds vs n r⟩
  | .scr ds, _, n, h => by obtain ⟨a, vs, e, t, r⟩ := h; exact ⟨a, vs, e, hK ▸ t, ShL.toXa hK ds vs n r⟩
  | .ins _ _ ds, _, n, h => by obtain ⟨a, dx, vs, e, m, t, l, r⟩ := h; exact ⟨a, dx, vs, e, m, hK ▸ t, l, ShL.toXa hK ds vs n r⟩
  | .non, _, _, h => h
  | .bl _, _, _, h => h
  | .int _, _, _, h => h
  | .str _, _, _, h => h
  | .ty _, _, _, h => h
  | .cls C, v, _, h => by
    have h' : v = .ref (He.ga g.K C) := h
    show v = .ref (He.ga g'.K C)
    rw [h', hK]
theorem ShL.toXa {g g' : G} (hK : g.K = g'.K) : ∀ (ds : List D) (vs : List V), noXL ds = true → ShL g H M ds vs → ShL g' H M ds vs
  | [], _, _, h => h
  | d :: ds, _, n, h => by
    obtain ⟨v, r, e, h1, h2⟩ := h
    obtain ⟨n1, n2⟩ := Bool.and_eq_true_iff.mp (show (Z.noX d && noXL ds) = true from n)
    exact ⟨v, r, e, Sh.toXa hK d v n1 h1, ShL.toXa hK ds r n2 h2⟩
end
mutual
theorem Ow.noX : ∀ (d : D) (n : Nat) (v : V) (F : List Addr), Ow ⟨K, none⟩ H M d n v F → Z.noX d = true
  | .lst ds, n + 1, _, _, h => by obtain ⟨_, vs, J, _, _, _, r⟩ := h; exact OwL.noX ds n vs J r
  | .ins _ _ ds, n + 1, _, _, h => by obtain ⟨_, _, vs, J, _, _, _, _, r⟩ := h; exact OwL.noX ds n vs J r
  | .lst ds, 0, v, _, h => Sh.noX (.lst ds) v h.2
  | .ins C ns ds, 0, v, _, h => Sh.noX (.ins C ns ds) v h.2
  | .tup ds, n, v, F, h => by
    have h' : F = [] ∧ Sh ⟨K, none⟩ H M (.tup ds) v := by cases n <;> exact h
    exact Sh.noX (.tup ds) v h'.2
  | .scr ds, n, v, F, h => by
    have h' : F = [] ∧ Sh ⟨K, none⟩ H M (.scr ds) v := by cases n <;> exact h
    exact Sh.noX (.scr ds) v h'.2
  | .xr C ns ds, n, v, F, h => by
    have h' : F = [] ∧ Sh ⟨K, none⟩ H M (.xr C ns ds) v := by cases n <;> exact h
    exact Sh.noX (.xr C ns ds) v h'.2
  | .non, _, _, _, _ => rfl
  | .bl _, _, _, _, _ => rfl
  | .int _, _, _, _, _ => rfl
  | .str _, _, _, _, _ => rfl
  | .ty _, _, _, _, _ => rfl
  | .cls _, _, _, _, _ => rfl
theorem OwL.noX : ∀ (ds : List D) (n : Nat) (vs : List V) (F : List Addr), OwL ⟨K, none⟩ H M ds n vs F → noXL ds = true
  | [], _, _, _, _ => rfl
  | d :: ds, n, _, _, h => by
    obtain ⟨v, r, J1, J2, _, _, h1, h2⟩ := h
    show (Z.noX d && noXL ds) = true
    rw [Ow.noX d n v J1 h1, OwL.noX ds n r J2 h2]; rfl
end
mutual
theorem Ow.toXa {g g' : G} (hK : g.K = g'.K) : ∀ (d : D) (n : Nat) (v : V) (F : List Addr), Z.noX d = true → Ow g H M d n v F → Ow g' H M d n v F
  | .lst ds, n + 1, _, _, x, h => by obtain ⟨a, vs, J, e, f, q, r⟩ := h; exact ⟨a, vs, J, e, f, q, OwL.toXa hK ds n vs J x r⟩
  | .ins _ _ ds, n + 1, _, _, x, h => by obtain ⟨a, dx, vs, J, e, f, q, l, r⟩ := h; exact ⟨a, dx, vs, J, e, f, hK ▸ q, l, OwL.toXa hK ds n vs J x r⟩
  | .lst ds, 0, v, _, x, h => ⟨h.1, Sh.toXa hK (.lst ds) v x h.2⟩
  | .ins C ns ds, 0, v, _, x, h => ⟨h.1, Sh.toXa hK (.ins C ns ds) v x h.2⟩
  | .tup ds, n, v, F, x, h => by
    have h' : F = [] ∧ Sh g H M (.tup ds) v := by cases n <;> exact h
    have r : F = [] ∧ Sh g' H M (.tup ds) v := ⟨h'.1, Sh.toXa hK (.tup ds) v x h'.2⟩
    cases n <;> exact r
  | .scr ds, n, v, F, x, h => by
    have h' : F = [] ∧ Sh g H M (.scr ds) v := by cases n <;> exact h
    have r : F = [] ∧ Sh g' H M (.scr ds) v := ⟨h'.1, Sh.toXa hK (.scr ds) v x h'.2⟩
    cases n <;> exact r
  | .xr _ _ _, n, _, _, x, _ => by cases x
  | .non, n, v, F, _, h => by
    have h' : F = [] ∧ v = .non := by cases n <;> exact h
    cases n <;> exact h'
  | .bl b, n, v, F, _, h => by
    have h' : F = [] ∧ v = .bl b := by cases n <;> exact h
    cases n <;> exact h'
  | .int b, n, v, F, _, h => by
    have h' : F = [] ∧ v = .int b := by cases n <;> exact h
    cases n <;> exact h'
  | .str b, n, v, F, _, h => by
    have h' : F = [] ∧ v = .str b := by cases n <;> exact h
    cases n <;> exact h'
  | .ty b, n, v, F, _, h => by
    have h' : F = [] ∧ v = .ty b := by cases n <;> exact h
    cases n <;> exact h'
  | .cls C, n, v, F, _, h => by
    have h' : F = [] ∧ v = .ref (He.ga g.K C) := by cases n <;> exact h
    rw [hK] at h'
    cases n <;> exact h'
theorem OwL.toXa {g g' : G} (hK : g.K = g'.K) : ∀ (ds : List D) (n : Nat) (vs : List V) (F : List Addr), noXL ds = true → OwL g H M ds n vs F → OwL g' H M ds n vs F
  | [], _, _, _, _, h => h
  | d :: ds, n, _, _, x, h => by
    obtain ⟨v, r, J1, J2, e, f, h1, h2⟩ := h
    obtain ⟨n1, n2⟩ := Bool.and_eq_true_iff.mp (show (Z.noX d && noXL ds) = true from x)
    exact ⟨v, r, J1, J2, e, f, Ow.toXa hK d n v J1 n1 h1, OwL.toXa hK ds n r J2 n2 h2⟩
end
def noXE : Env → Prop
  | [] => True
  | s :: ρ => noXs s = true ∧ noXE ρ
theorem EnvR.noX : ∀ {ρ : Env} {σ : St} {F : List Addr}, EnvR ⟨K, none⟩ H M ρ σ F → noXE ρ
  | [], _, _, _ => trivial
  | none :: ρ, _, _, ⟨o, r, _, h⟩ => ⟨rfl, EnvR.noX h⟩
  | some (n, d) :: ρ, _, _, ⟨v, r, F1, F2, _, _, h1, h⟩ => ⟨Ow.noX d n v F1 h1, EnvR.noX h⟩
theorem EnvR.toXa {g g' : G} (hK : g.K = g'.K) : ∀ {ρ : Env} {σ : St} {F : List Addr}, noXE ρ → EnvR g H M ρ σ F → EnvR g' H M ρ σ F
  | [], _, _, _, h => h
  | none :: ρ, _, _, x, ⟨o, r, e, h⟩ => ⟨o, r, e, EnvR.toXa hK x.2 h⟩
  | some (n, d) :: ρ, _, _, x, ⟨v, r, F1, F2, e, f, h1, h⟩ => ⟨v, r, F1, F2, e, f, Ow.toXa hK d n v F1 x.1 h1, EnvR.toXa hK x.2 h⟩
theorem S.toXa {g g' : G} (hK : g.K = g'.K) {M0 : Addr → Prop} {σ : St} {ρ : Env} {F : List Addr} (x : noXE ρ) (s : S g M0 H σ ρ F) : S g' M0 H σ ρ F := ⟨EnvR.toXa hK x s.env, s.nd, s.dj, s.tk⟩
theorem EnvR.inS {K : PySem.W.Frag} {H : Hp} {M : Addr → Prop} (y : Option (Addr × Addr)) {ρ : Env} {σ : St} {F : List Addr} (n : noXE ρ) (e : EnvR ⟨K, none⟩ H M ρ σ F) : EnvR ⟨K, y⟩ H M ρ σ F := EnvR.toXa (g := ⟨K, none⟩) (g' := ⟨K, y⟩) rfl n e
theorem EnvR.outS {K : PySem.W.Frag} {H : Hp} {M : Addr → Prop} {y : Option (Addr × Addr)} {ρ : Env} {σ : St} {F : List Addr} (n : noXE ρ) (e : EnvR ⟨K, y⟩ H M ρ σ F) : EnvR ⟨K, none⟩ H M ρ σ F := EnvR.toXa (g := ⟨K, y⟩) (g' := ⟨K, none⟩) rfl n e
theorem S.inS {K : PySem.W.Frag} {H : Hp} {M0 : Addr → Prop} (y : Option (Addr × Addr)) {ρ : Env} {σ : St} {F : List Addr} (n : noXE ρ) (s : S ⟨K, none⟩ M0 H σ ρ F) : S ⟨K, y⟩ M0 H σ ρ F := ⟨s.env.inS y n, s.nd, s.dj, s.tk⟩
theorem S.outS {K : PySem.W.Frag} {H : Hp} {M0 : Addr → Prop} {y : Option (Addr × Addr)} {ρ : Env} {σ : St} {F : List Addr} (n : noXE ρ) (s : S ⟨K, y⟩ M0 H σ ρ F) : S ⟨K, none⟩ M0 H σ ρ F := ⟨s.env.outS n, s.nd, s.dj, s.tk⟩
theorem noXE_app : ∀ {ρ ρ' : Env}, noXE ρ → noXE ρ' → noXE (ρ ++ ρ')
  | [], _, _, h => h
  | s :: ρ, _, h, h' => ⟨h.1, noXE_app h.2 h'⟩
end
/-- what a suite leaves: each slot as it was, or no caught error -/
def okBack : Env → Env → Prop
  | s0 :: ρ0, s :: ρ => (s = s0 ∨ noXs s = true) ∧ okBack ρ0 ρ
  | [], [] => True
  | _, _ => False
theorem okBack_no : ∀ {ρ0 ρ : Env}, noXE ρ0 → okBack ρ0 ρ → noXE ρ
  | [], [], _, _ => trivial
  | s0 :: ρ0, s :: ρ, h, ⟨h1, h2⟩ => ⟨h1.elim (fun e => e ▸ h.1) id, okBack_no h.2 h2⟩
  | [], _ :: _, _, h => h.elim
  | _ :: _, [], _, h => h.elim
def offS (o : Option Nat) (σ : St) : St := match o with
  | none => σ
  | some i => σ.set i none
def offE (o : Option Nat) (ρ : Env) : Env := match o with
  | none => ρ
  | some i => ρ.set i none
/-- the env in which a suite starts -/
def onE (o : Option Nat) (x : Exn) (ρ : Env) : Env := match o with
  | none => ρ
  | some i => match x.2.1 with
    | [] => ρ.set i none
    | _ :: _ => ρ.set i (some (0, .xr x.1 x.2.1 x.2.2))
def goneD (o : Option Nat) (ρ0 : Env) (D : DEnds) : DEnds where
  nx := fun ρ => okBack (offE o ρ0) (offE o ρ) ∧ D.nx (offE o ρ)
  bk := fun ρ => okBack (offE o ρ0) (offE o ρ) ∧ D.bk (offE o ρ)
  ct := fun ρ => okBack (offE o ρ0) (offE o ρ) ∧ D.ct (offE o ρ)
  rt := fun n d ρ => noX d = true ∧ okBack (offE o ρ0) (offE o ρ) ∧ D.rt n d (offE o ρ)
  ex := fun _ _ => False
abbrev DCl := Str × Option Nat × WS
def hnd (sub : Str → Str → Option Bool) (D : DEnds) (x : Exn) (ρ : Env) : List DCl → Prop
  | [] => D.ex x ρ
  | (y, o, ws) :: r => match sub x.1 y with
    | some true => x.1 = y ∧ ws (goneD o ρ D) (onE o x ρ)
    | some false => hnd sub D x ρ r
    | none => False
def wTry (sub : Str → Str → Option Bool) (wb : WS) (cl : List DCl) : WS := fun D ρ => wb { D with ex := fun x ρ' => hnd sub D x ρ' cl } ρ
/-- the classes as the written part has them -/
def SubOk (K : PySem.W.Frag) (sub : Str → Str → Option Bool) : Prop := ∀ x y b, sub x y = some b → PySem.W.exmOne K (.ref (He.ga K x)) (.ref (He.ga K y)) = some b
def clOf (K : PySem.W.Frag) (io : Io) (c : DCl) : Clause := (.ref (He.ga K c.1), c.2.1, fun a cls d T σ H => cls = .ref (He.ga K c.1) ∧ liftS ⟨K, d.map fun q => (a, q)⟩ WF io c.2.2 T σ H)
section
variable {X : Cx} {W : WX} {io : Io}
theorem set_none_set {ρ : Env} {i : Nat} {s : Slot} : (ρ.set i s).set i none = ρ.set i none := List.set_set ..
/-- the clauses' wishes are met -/
theorem hnd_wish {sub : Str → Str → Option Bool} (hs : SubOk X.K sub) {M0 : Addr → Prop} {H : Hp} {σ : St} {ρ : Env} {F : List Addr} {D : DEnds} {T : Ends} {pn : Nat → V} {x : Exn} {cls : Value} {dd : Option Addr} (s : S ⟨X.K, none⟩ M0 H σ ρ F) (p : Pn io pn σ)
    (c : Conn ⟨X.K, none⟩ W io pn M0 H F D T) (xr : XR ⟨X.K, none⟩ H (fun a => M0 a ∨ a ∈ F) x cls dd) : ∀ (cl : List DCl), (∀ k ∈ cl, ∀ i, k.2.1 = some i → i < io.N ∧ i ∉ io.l) → hnd sub D x ρ cl → wish X.K W T (cl.map (clOf X.K io)) cls dd σ H
  | [], _, h => c.ex x ρ σ H F cls dd h s p Tr.refl xr
  | (y, o, ws) :: r, hi, h => by
    have h1 : (match sub x.1 y with
      | some true => x.1 = y ∧ ws (goneD o ρ D) (onE o x ρ)
      | some false => hnd sub D x ρ r
      | none => False) := h
    cases e : sub x.1 y with
    | none => rw [e] at h1; exact h1.elim
    | some b =>
      rw [e] at h1
      refine ⟨b, by rw [xr.1]; exact hs _ _ _ e, fun eb a na => ?_, fun eb => ?_⟩
      · subst eb
        have no := EnvR.noX s.env
        -- the state ahead of the suite
        have key : ∃ F1, S ⟨X.K, dd.map fun q => (a, q)⟩ M0 H (named σ a o) (onE o x ρ) F1 ∧ Tr H F H F1 ∧ Pn io pn (named σ a o) ∧ noXE (offE o ρ) := by
          cases o with
          | none => exact ⟨F, s.inS _ no, Tr.refl, p, no⟩
          | some i =>
            obtain ⟨hlt, hio⟩ := hi _ List.mem_cons_self i rfl
            have il : i < ρ.length := by rw [← s.len, p.1]; exact hlt
            obtain ⟨Fi, Fo, pm, er⟩ := EnvR.drop (i := i) s.env
            have sub' : ∀ a ∈ Fo, a ∈ F := fun a z => pm.mem_iff.mp (List.mem_append_right _ z)
            have er1 : EnvR ⟨X.K, none⟩ H (fun a => M0 a ∨ a ∈ Fo) (ρ.set i none) σ Fo := er.less fun a z => z.imp id (sub' a)
            have no' := EnvR.noX er1
            have er2 : EnvR ⟨X.K, dd.map fun q => (a, q)⟩ H (fun a => M0 a ∨ a ∈ Fo) (ρ.set i none) σ Fo := er1.inS _ no'
            have ndo := (List.nodup_append.mp (pm.nodup_iff.mpr s.nd)).2.1
            have tr : Tr H F H Fo := Tr.sub sub'
            rcases hx : x with ⟨C, ns, ds⟩
            cases ns with
            | nil => exact ⟨Fo, ⟨er2.setσ (by rw [List.getElem?_set_self il]), ndo, fun a ha => s.dj a (sub' a ha), s.tk⟩, tr, p.set hio, no'⟩
            | cons n1 ns =>
              have xr2 := xr.2
              rw [hx] at xr2
              rcases xr2 with ⟨z, _, _⟩ | ⟨d0, vs, edd, nM, hd, hl, sh⟩
              · cases z
              · have sh' : Sh ⟨X.K, dd.map fun q => (a, q)⟩ H (fun a => M0 a ∨ a ∈ Fo) (.xr C (n1 :: ns) ds) (.ref a) := ⟨a, d0, vs, by rw [edd]; rfl, rfl, fun z => nM (z.imp id (sub' d0)), hd, hl, (ShL.toXa (g := ⟨X.K, none⟩) (g' := ⟨X.K, dd.map fun q => (a, q)⟩) rfl ds vs (ShL.noX ds vs sh) sh).less fun a z => z.imp id (sub' a)⟩
                obtain ⟨F2, p2, q⟩ := EnvR.put (n := 0) (v := .ref a) (i := i) er2 (by rw [List.getElem?_set_self il]) (ow_zero.mpr ⟨rfl, sh'⟩)
                rw [List.set_set] at q
                have p2' : Fo.Perm F2 := by simpa using p2
                exact ⟨F2, ⟨q.less fun a z => z.imp id fun z => p2'.mem_iff.mpr z, p2'.nodup_iff.mp ndo, fun a ha => s.dj a (sub' a (p2'.mem_iff.mpr ha)), s.tk⟩, tr.trans (Tr.of_perm p2'.symm), p.set hio, no'⟩
        obtain ⟨F1, s1, t1, p1, no1⟩ := key
        have c1 := c.step t1
        -- back from the suite
        have drop : ∀ {M0 : Addr → Prop} {σ' : St} {ρ' : Env} {H' : Hp} {F' : List Addr}, S ⟨X.K, dd.map fun q => (a, q)⟩ M0 H' σ' ρ' F' → Pn io pn σ' → okBack (offE o ρ) (offE o ρ') → ∃ F2, S ⟨X.K, none⟩ M0 H' (offS o σ') (offE o ρ') F2 ∧ Pn io pn (offS o σ') ∧ Tr H' F' H' F2 := by
          intro M0 σ' ρ' H' F' s' p' ok
          have no2 := okBack_no no1 ok
          cases o with
          | none => exact ⟨F', s'.outS no2, p', Tr.refl⟩
          | some i =>
            obtain ⟨hlt, hio⟩ := hi _ List.mem_cons_self i rfl
            have il : i < ρ'.length := by rw [← s'.len, p'.1]; exact hlt
            obtain ⟨Fi, Fo, pm, er⟩ := EnvR.drop (i := i) s'.env
            have sub' : ∀ a ∈ Fo, a ∈ F' := fun a z => pm.mem_iff.mp (List.mem_append_right _ z)
            have er1 : EnvR ⟨X.K, dd.map fun q => (a, q)⟩ H' (fun a => M0 a ∨ a ∈ Fo) (ρ'.set i none) σ' Fo := er.less fun a z => z.imp id (sub' a)
            have er2 : EnvR ⟨X.K, none⟩ H' (fun a => M0 a ∨ a ∈ Fo) (ρ'.set i none) (σ'.set i none) Fo := (er1.outS no2).setσ (by show (ρ'.set i none)[i]? = some none; rw [List.getElem?_set_self il])
            exact ⟨Fo, ⟨er2, (List.nodup_append.mp (pm.nodup_iff.mpr s'.nd)).2.1, fun a ha => s'.dj a (sub' a ha), s'.tk⟩, p'.set hio, Tr.sub sub'⟩
        refine ⟨by rw [xr.1, h1.1], M0, onE o x ρ, F1, goneD o ρ D, pn, s1, p1, h1.2, { nx := fun ρ' σ' H' F' h s' p' t' => ?_, bk := fun ρ' σ' H' F' h s' p' t' => ?_, ct := fun ρ' σ' H' F' h s' p' t' => ?_, rt := fun n d ρ' σ' v H' F' h s' p' l' t' => ?_, ex := fun _ _ _ _ _ _ _ h => h.elim }⟩
        · obtain ⟨F2, s2, p2, t2⟩ := drop s' p' h.1
          have q := c1.nx _ _ H' F2 h.2 s2 p2 (t'.trans t2)
          cases o <;> exact q
        · obtain ⟨F2, s2, p2, t2⟩ := drop s' p' h.1
          have q := c1.bk _ _ H' F2 h.2 s2 p2 (t'.trans t2)
          cases o <;> exact q
        · obtain ⟨F2, s2, p2, t2⟩ := drop s' p' h.1
          have q := c1.ct _ _ H' F2 h.2 s2 p2 (t'.trans t2)
          cases o <;> exact q
        · -- a value returned
          obtain ⟨hn, ok, hr⟩ := h
          obtain ⟨Fa, Fb, rfl, sa, eb⟩ := s'.split l'
          obtain ⟨F2, s2, p2, t2⟩ := drop sa p' ok
          obtain ⟨nn1, nn2, nn3⟩ := List.nodup_append.mp s'.nd
          have eb' : EnvR ⟨X.K, none⟩ H' (fun a => (M0 a ∨ a ∈ Fb) ∨ a ∈ Fa) [some (n, d)] [some v] Fb := EnvR.outS ⟨hn, trivial⟩ eb
          have j := S.join s2 eb' nn2 (fun a ha => s'.dj a (List.mem_append_right _ ha)) s'.tk (fun a ha hb => nn3 a hb a ha rfl) t2
          have q := c1.rt n d (offE o ρ') _ v H' (F2 ++ Fb) hr j p2 (by rw [s2.len]) (t'.trans (t2.widen (F2 := Fb)))
          cases o <;> exact q
      · subst eb
        exact hnd_wish hs s p c xr r (fun k hk => hi k (List.mem_cons_of_mem _ hk)) h1
theorem ds_try {sub : Str → Str → Option Bool} {body : List Stmt} {h0 : ExceptHandler} {hs : List ExceptHandler} {pos : Pos} {wb : WS} {cl : List DCl} (hsub : SubOk X.K sub) (stk : X.stack = X.env :: X.outer) (frm : X.env.frame = some X.env.locals) (tk : Takes X W)
    (hb : ∀ (W' : WX) (pn : List (Addr × Obj)) (xe : Value → Shared → Prop), Takes (X.tr pn xe) W' → PassesOwn (model X.prog X.w) X.A X.env xe → DSs (X.tr pn xe) ⟨X.K, none⟩ W' io body wb) (cs : Clauses X (h0 :: hs) (cl.map (clOf X.K io))) (hi : ∀ k ∈ cl, ∀ i, k.2.1 = some i → i < io.N ∧ i ∉ io.l) :
    DS X ⟨X.K, none⟩ W io (.Try body (h0 :: hs) [] [] pos) (wTry sub wb cl) := PS.weak (try_clauses stk frm tk hb cs) fun T σ H h => by
  obtain ⟨M0, ρ, F, D, pn, s, p, hw, c⟩ := h
  exact ⟨M0, ρ, F, _, pn, s, p, hw, { nx := c.nx, bk := c.bk, ct := c.ct, rt := c.rt, ex := fun x ρ' σ' H' F' cls dd hx s' p' t' xr => hnd_wish hsub s' p' (c.step t') xr cl hi hx }⟩
/-- a caught error's field -/
def wXf (i : Nat) (f : Str) : WO := fun ρ Q _ => match ρ[i]? with
  | some (some (_, .xr _ ns ds)) => match (ns.zip ds).lookup f with
    | some d => Q (.tm 0 d) ρ
    | none => False
  | _ => False
theorem lookup_shl {g : G} {H : Hp} {M : Addr → Prop} {f : Str} : ∀ {ns : List Str} {ds : List D} {vs : List V} {d : D}, ShL g H M ds vs → (ns.zip ds).lookup f = some d → ∃ v, (ns.zip vs).lookup f = some v ∧ Sh g H M d v
  | [], _, _, _, _, h => by cases h
  | _ :: _, [], _, _, _, h => by cases h
  | n :: ns, d' :: ds, _, d, ⟨v, r, e, h1, h2⟩, h => by
    subst e
    rw [List.zip_cons_cons, List.lookup_cons] at h ⊢
    cases q : f == n with
    | true => rw [q] at h; cases h; exact ⟨v, rfl, h1⟩
    | false => rw [q] at h; exact lookup_shl h2 h
theorem suite_of {a : Addr} {oe : Obj} {d : Option Addr} {cls c : Value} {pn : List (Addr × Obj)} {st : List Stmt} {t : TS} (h : cls = c → PSs (X.suite a ((a, oe) :: pn)) st t) : PSs (X.suite a ((a, oe) :: pn)) st fun T σ H => cls = c ∧ t T σ H :=
  ⟨fun pins s σ H D I q => (h q.1).run pins s σ H D I q.2⟩
theorem do_xf {a C : Addr} {oe : Obj} {cls : Value} {d : Option Addr} {pn : List (Addr × Obj)} {x : Str} {i : Nat} {f : Str} {p pos : Pos} (T1 : XfC X.K C) (T2 : PySem.W.findIn X.K (.ref C) f = some none) (hcl : cls = .ref C) (hz : Zc cls d oe) (hf : ∃ vs, oe.data = .fields vs)
    (hN : X.N[i]? = some x) (hv : Vis X.env.scope x) (hd : (x == ("__debug__" : Str)) = false := by decide) (hcd : (x == ("__classdict__" : Str)) = false := by decide) (hb : attributeBase (.Name x p) f X.env (eval (.Name x p) X.env) = eval (.Name x p) X.env := by rfl) :
    DO (X.suite a ((a, oe) :: pn)) ⟨X.K, d.map fun q => (a, q)⟩ WF (.Attribute (.Name x p) f pos) (wXf i f) := by
  subst hcl
  refine PE.weak (pe_xf (C := C) T1 T2 hz hf (pe_var (X := X.suite a ((a, oe) :: pn)) hN hv hd hcd) hb) fun σ H Q h => ?_
  obtain ⟨M0, ρ, F, Qd, Ed, s, hw, k, lk⟩ := h
  have hw1 : (match ρ[i]? with
    | some (some (_, .xr _ ns ds)) => match (ns.zip ds).lookup f with
      | some d => Qd (.tm 0 d) ρ
      | none => False
    | _ => False) := hw
  cases e : ρ[i]? with
  | none => rw [e] at hw1; exact hw1.elim
  | some sl =>
    cases sl with
    | none => rw [e] at hw1; exact hw1.elim
    | some q0 =>
    obtain ⟨n, d0⟩ := q0
    cases d0 with
    | xr C' ns ds =>
      rw [e] at hw1
      simp only at hw1
      obtain ⟨v, Fi, hv', _, ow⟩ := s.env.at e
      have sh : Sh ⟨X.K, d.map fun q => (a, q)⟩ H (fun a => M0 a ∨ a ∈ F) (.xr C' ns ds) v := by cases n <;> exact ow.2
      obtain ⟨a', d', vs, ea, rfl, nM, hdd, hl, sl⟩ := sh
      have ed : d = some d' ∧ a = a' := by
        cases d with
        | none => cases ea
        | some q => cases ea; exact ⟨rfl, rfl⟩
      obtain ⟨rfl, rfl⟩ := ed
      cases el : (ns.zip ds).lookup f with
      | none => rw [el] at hw1; exact hw1.elim
      | some dv =>
        rw [el] at hw1
        obtain ⟨u, hu, su⟩ := lookup_shl sl el
        refine ⟨.ref a, hv', rfl, rfl, d', ns.zip vs, u, rfl, hdd, hu, ?_⟩
        obtain ⟨F2, s2, t2⟩ := S.res (T := []) (TD := []) (n := 0) (d := dv) (v := u) (by simpa using s) s.len (NewV.sh su)
        exact k (.tm 0 dv) ρ u H F2 [some u] [some (0, dv)] hw1 ⟨_, [], [], [], rfl, rfl, rfl, rfl, rfl, rfl⟩ s2 s.len t2
    | _ => rw [e] at hw1; exact hw1.elim
end
end Z

set_option Elab.async false
set_option linter.all false
set_option maxRecDepth 100000
set_option maxHeartbeats 4000000
/-! Dp12: methods of owned lists; chains of comparisons; raise. -/
namespace Z
open PySem PySem.Spec PyProof.Rows L2
/-- what a method does: the list, the arguments; the new list, the answer -/
abbrev Mth := List D → List D → (List D → D → Prop) → Prop
/-- the rule of a method by values: M holds the list's address -/
def MtZ (X : Cx) (g : G) (id : String) (f : Mth) : Prop := MtR X id fun x vs H Q => ∃ a xs M ds as Qd, x = .ref a ∧ H a = some (.lst xs) ∧ M a ∧ ShL g H M ds xs ∧ ShL g H M as vs ∧ f ds as Qd ∧
  ∀ ds' d v xs', Qd ds' d → ShL g H M ds' xs' → Sh g H M d v → Q v (upd H a (.lst xs'))
def isLst (ρ : Env) (i : Nat) (p : Prop) : Prop := match ρ[i]? with
  | some (some (_, .lst _)) => p
  | _ => False
def onLst (ρ : Env) (i : Nat) (f : List D → Prop) : Prop := match ρ[i]? with
  | some (some (_ + 1, .lst ds)) => f ds
  | _ => False
def wMt0 (i : Nat) (f : Mth) : WO := fun ρ Q _ => onLst ρ i fun ds => f ds [] fun ds' d => Q (.tm 0 d) (ρ.set i (some (1, .lst ds')))
def wMt (i : Nat) (f : Mth) (wr : WOs) : WO := fun ρ Q E => isLst ρ i (wr ρ (fun os ρ' => toVals ρ' os fun nds ρ'' => onLst ρ'' i fun ds => f ds (nds.map (·.2)) fun ds' d => Q (.tm 0 d) (ρ''.set i (some (1, .lst ds')))) E)
section
variable {g : G} {M0 : Addr → Prop} {H H' : Hp} {σ : St} {ρ : Env} {F : List Addr}
theorem onLst_of {i : Nat} {f : List D → Prop} (h : onLst ρ i f) : ∃ n ds, ρ[i]? = some (some (n + 1, .lst ds)) ∧ f ds := by
  unfold onLst at h
  cases e : ρ[i]? with
  | none => rw [e] at h; exact h.elim
  | some sl =>
    cases sl with
    | none => rw [e] at h; exact h.elim
    | some p =>
      obtain ⟨n, d⟩ := p
      cases n with
      | zero => rw [e] at h; cases d <;> exact h.elim
      | succ n =>
        cases d with
        | lst ds => rw [e] at h; exact ⟨n, ds, rfl, h⟩
        | _ => rw [e] at h; exact h.elim
theorem isLst_of {i : Nat} {p : Prop} (h : isLst ρ i p) : ∃ n ds, ρ[i]? = some (some (n, .lst ds)) ∧ p := by
  unfold isLst at h
  cases e : ρ[i]? with
  | none => rw [e] at h; exact h.elim
  | some sl =>
    cases sl with
    | none => rw [e] at h; exact h.elim
    | some q =>
      obtain ⟨n, d⟩ := q
      cases d with
      | lst ds => rw [e] at h; exact ⟨n, ds, rfl, h⟩
      | _ => rw [e] at h; exact h.elim
/-- an owned list: where it stands; what its change is -/
theorem S.change {i n : Nat} {ds : List D} (s : S g M0 H σ ρ F) (e : ρ[i]? = some (some (n + 1, .lst ds))) : ∃ F1 a xs, Tr H F H F1 ∧ (∀ b ∈ F1, H b ≠ none) ∧ σ[i]? = some (some (.ref a)) ∧ H a = some (.lst xs) ∧ (M0 a ∨ a ∈ F1) ∧ ShL g H (fun a => M0 a ∨ a ∈ F1) ds xs ∧
    ∀ ds' d v xs', ShL g H (fun a => M0 a ∨ a ∈ F1) ds' xs' → Sh g H (fun a => M0 a ∨ a ∈ F1) d v → ∃ F2, S g M0 (upd H a (.lst xs')) (σ ++ [some v]) (ρ.set i (some (1, .lst ds')) ++ [some (0, d)]) F2 ∧ Tr H F1 (upd H a (.lst xs')) F2 := by
  have hi : i < ρ.length := (List.getElem?_eq_some_iff.mp e).1
  obtain ⟨F1, s1, t1⟩ := s.down (m := 1) e (by omega)
  obtain ⟨v0, Fi, Fo, hv, pm, ow, er⟩ := s1.env.take (i := i) (n := 1) (d := .lst ds) (by rw [List.getElem?_set_self hi])
  obtain ⟨a, xs, J, rfl, rfl, hH, r⟩ := ow
  obtain ⟨rfl, sh⟩ := owL_zero.mp r
  have ha : a ∈ F1 := pm.mem_iff.mp (List.mem_cons_self)
  have nd : (a :: Fo).Nodup := pm.nodup_iff.mpr s1.nd
  have na : a ∉ Fo := (List.nodup_cons.mp nd).1
  refine ⟨F1, a, xs, t1, s1.tracked, hv, hH, .inr ha, sh, fun ds' d v xs' sh' shv => ?_⟩
  have kp : ∀ b o, H b = some o → ¬ (M0 b ∨ b ∈ F1) → upd H a (.lst xs') b = some o := fun b o eb n => by
    have ne : b ≠ a := fun z => n (.inr (by rw [z]; exact ha))
    rw [upd_ne ne]; exact eb
  have er1 : EnvR g (upd H a (.lst xs')) (fun a => M0 a ∨ a ∈ F1) (ρ.set i none) σ Fo := by
    rw [List.set_set] at er
    exact EnvR.keep (M := fun a => M0 a ∨ a ∈ F1) (fun b z => .inl z) kp _ σ Fo (fun b hb o eb => by
      have ne : b ≠ a := fun z => na (by rw [← z]; exact hb)
      rw [upd_ne ne]; exact eb) er
  have own : Ow g (upd H a (.lst xs')) (fun a => M0 a ∨ a ∈ F1) (.lst ds') 1 (.ref a) [a] := ⟨a, xs', [], rfl, rfl, upd_same, owL_zero.mpr ⟨rfl, ShL.keep (M := fun a => M0 a ∨ a ∈ F1) (fun b z => .inl z) kp ds' xs' sh'⟩⟩
  obtain ⟨F2, p2, q⟩ := EnvR.put (v := .ref a) (i := i) er1 (by rw [List.getElem?_set_self hi]) own
  rw [List.set_set, set_eq hv] at q
  have pp : F2.Perm F1 := p2.symm.trans pm
  have sv : Sh g (upd H a (.lst xs')) (fun a => M0 a ∨ a ∈ F1) d v := Sh.keep (M := fun a => M0 a ∨ a ∈ F1) (fun b z => .inl z) kp d v shv
  have s2 : S g M0 (upd H a (.lst xs')) σ (ρ.set i (some (1, .lst ds'))) F2 := ⟨q.less fun b z => z.imp id fun z => pp.mem_iff.mp z, pp.nodup_iff.mpr s1.nd, fun b hb => s1.dj b (pp.mem_iff.mp hb), fun b z => by
    by_cases eb : b = a
    · rw [eb, upd_same]; exact fun z => nomatch z
    · rw [upd_ne eb]; exact s1.tk b z⟩
  obtain ⟨F3, s3, t3⟩ := S.res (T := []) (TD := []) (n := 0) (d := d) (v := v) (by simpa using s2) s2.len (NewV.sh (sv.less fun b z => z.imp id fun z => pp.mem_iff.mp z))
  refine ⟨F3, s3, (⟨fun b o eb nb => by
    have ne : b ≠ a := fun z => nb (by rw [z]; exact ha)
    rw [upd_ne ne]; exact eb, fun b z => .inl (pp.mem_iff.mp z)⟩ : Tr H F1 (upd H a (.lst xs')) F2).trans t3⟩
end
section
variable {X : Cx} {xa : Option (Addr × Addr)} {W : WX} {e : Expr} {es : List Expr} {wr : WOs} {i : Nat} {f : Mth} {x name : Str} {p apos cpos : Pos} {id : String}
theorem do_mt0 (slot : PySem.Slot "list" name id) (hty : typeOf (.builtin id) = pure (.type "method_descriptor")) (hm : MtZ X (gX X xa) id f) (hN : X.N[i]? = some x) (hv : Vis X.env.scope x) (hd : (x == ("__debug__" : Str)) = false := by decide) (hcd : (x == ("__classdict__" : Str)) = false := by decide)
    (hbase : attributeBase (.Name x p) name X.env (eval (.Name x p) X.env) = eval (.Name x p) X.env := by rfl) (hline : (apos.endLine == cpos.line) = true := by rfl) : DO X (gX X xa) W (.Call (.Attribute (.Name x p) name apos) [] [] cpos) (wMt0 i f) :=
  PE.weak (pe_bm0 PySem.F.plainAttrs_list slot hty hm (pe_var hN hv hd hcd) hbase hline) fun σ H Q h => by
    obtain ⟨M0, ρ, F, Qd, Ed, s, hw, k, lk⟩ := h
    obtain ⟨n, ds, er, hf⟩ := onLst_of hw
    obtain ⟨F1, a, xs, t1, _, hσ, hH, hM, sh, step⟩ := s.change er
    refine ⟨.ref a, hσ, .inl ⟨rfl, xs, .of hH⟩, a, xs, _, ds, [], _, rfl, hH, hM, sh, rfl, hf, fun ds' d v xs' hq h1 h2 => ?_⟩
    obtain ⟨F2, s2, t2⟩ := step ds' d v xs' h1 h2
    exact k (.tm 0 d) _ v _ F2 [some v] [some (0, d)] hq ⟨_, [], [], [], rfl, rfl, rfl, rfl, rfl, rfl⟩ s2 (by rw [List.length_set]; exact s.len) (t1.trans t2)
theorem do_mt (slot : PySem.Slot "list" name id) (hty : typeOf (.builtin id) = pure (.type "method_descriptor")) (hm : MtZ X (gX X xa) id f) (hN : X.N[i]? = some x) (hv : Vis X.env.scope x) (ha : DOs X (gX X xa) W (e :: es) wr) (hd : (x == ("__debug__" : Str)) = false := by decide) (hcd : (x == ("__classdict__" : Str)) = false := by decide)
    (hbase : attributeBase (.Name x p) name X.env (eval (.Name x p) X.env) = eval (.Name x p) X.env := by rfl)
    (hfew : ((backTo cpos (starEach (e :: es) X.env)).all (fun x => !x.1) && (backToKw cpos (keywordEach [] X.env)).all (fun x => x.1.isSome)
      && decide ((e :: es).length + ([] : List Keyword).length + (if ([] : List Keyword).isEmpty then 0 else 1) < 30)) = true := by rfl)
    (hline : (apos.endLine == cpos.line) = true := by rfl) (hs : starEach (e :: es) X.env = (false, eval e X.env) :: starEach es X.env := by rfl) (hplain : (backTo cpos (starEach es X.env)).any (·.1) = false := by rfl) :
    DO X (gX X xa) W (.Call (.Attribute (.Name x p) name apos) (e :: es) [] cpos) (wMt i f wr) :=
  PE.weak (pe_bm PySem.F.plainAttrs_list slot hty hm (pe_var hN hv hd hcd) ha hbase hfew hline hs hplain) fun σ H Q h => by
    obtain ⟨M0, ρ, F, Qd, Ed, s, hw, k, lk⟩ := h
    obtain ⟨n, ds0, er, hw⟩ := isLst_of hw
    obtain ⟨v0, Fi, hσ0, _, ow0⟩ := s.env.at er
    obtain ⟨a0, vs0, rfl, l0, _⟩ := Ow.see (.lst ds0) n v0 Fi ow0
    refine ⟨.ref a0, hσ0, .inl ⟨rfl, vs0, l0.sq⟩, M0, ρ, F, _, Ed, s, hw, fun os ρ1 vs H1 F1 T TD hq ho s1 l1 t1 => ?_, lk⟩
    obtain ⟨nds, ρ2, F2, T2, TD2, hq2, s2, l2, t2, sha⟩ := disp s1 l1 ho hq
    obtain ⟨m, ds, er2, hf⟩ := onLst_of hq2
    -- the arguments beside the list
    obtain ⟨Fa, Fb, rfl, ea, eb⟩ := s2.env.app l2
    have s3 : S (gX X xa) M0 H1 σ ρ2 Fa := by
      obtain ⟨n1, n2, n3⟩ := List.nodup_append.mp s2.nd
      exact ⟨ea.less fun a z => z.imp (fun z => z) (List.mem_append_left _), n1, fun a ha => s2.dj a (List.mem_append_left _ ha), s2.tk⟩
    obtain ⟨F4, a, xs, t4, tk4, hσ, hH, hM, sh, step⟩ := s3.change er2
    obtain rfl : a0 = a := by
      rw [hσ0] at hσ
      cases hσ
      rfl
    have t24 : Tr H1 (Fa ++ Fb) H1 F4 := (Tr.sub fun a z => List.mem_append_left _ z : Tr H1 (Fa ++ Fb) H1 Fa).trans t4
    have sha' : ShL (gX X xa) H1 (fun a => M0 a ∨ a ∈ F4) (nds.map (·.2)) vs := sha.less fun a z => z.imp (fun z => z) fun z => (t24.new a z).elim (fun y => y) fun y => absurd y (tk4 a z)
    refine ⟨_, xs, _, ds, nds.map (·.2), _, rfl, hH, hM, sh, sha', hf, fun ds' d v xs' hq h1 h2 => ?_⟩
    obtain ⟨F5, s5, t5⟩ := step ds' d v xs' h1 h2
    exact k (.tm 0 d) _ v _ F5 [some v] [some (0, d)] hq ⟨_, [], [], [], rfl, rfl, rfl, rfl, rfl, rfl⟩ s5 (by rw [List.length_set]; exact l2) (((t1.trans t2).trans t24).trans t5)
/-! ### the methods -/
def appD : Mth := fun ds as k => match as with
  | [d] => ds.length < big ∧ k (ds ++ [d]) .non
  | _ => False
def popD : Mth := fun ds as k => match as with
  | [] => ∃ d, ds[ds.length - 1]? = some d ∧ k ds.dropLast d
  | _ => False
def revD : Mth := fun ds as k => match as with
  | [] => k ds.reverse .non
  | _ => False
theorem shl_dropLast {g : G} {H : Hp} {M : Addr → Prop} {ds : List D} {vs : List V} (h : ShL g H M ds vs) : ShL g H M ds.dropLast vs.dropLast := by
  rw [List.dropLast_eq_take, List.dropLast_eq_take, shl_len h]
  exact shl_take _ h
theorem mt_appZ : MtZ X (gX X xa) "list.append" appD := by
  intro pins s σ H x vs v us Q I rx rv h
  obtain ⟨a, xs, M, ds, as, Qd, rfl, hH, hM, sh, sa, hf, k⟩ := h
  match as, sa, hf with
  | [d], sa, ⟨hz, hf⟩ =>
    obtain ⟨y, r, rfl, sy, rfl⟩ := sa
    exact mt_append pins s σ H _ _ v us Q I rx rv ⟨a, xs, y, rfl, rfl, hH, by rw [← shl_len sh]; exact big_lt (Nat.le_of_lt hz), k _ .non .non _ hf (shl_append sh ⟨y, [], rfl, sy, rfl⟩) rfl⟩
theorem mt_popZ : MtZ X (gX X xa) "list.pop" popD := by
  intro pins s σ H x vs v us Q I rx rv h
  obtain ⟨a, xs, M, ds, as, Qd, rfl, hH, hM, sh, sa, hf, k⟩ := h
  match as, sa, hf with
  | [], sa, ⟨d, hd, hf⟩ =>
    obtain rfl : vs = [] := sa
    obtain ⟨y, hy, sy⟩ := shl_get sh hd
    rw [shl_len sh] at hy
    exact mt_pop pins s σ H _ _ v us Q I rx rv ⟨a, xs, y, rfl, rfl, hH, hy, k _ d y _ hf (shl_dropLast sh) sy⟩
theorem mt_revZ : MtZ X (gX X xa) "list.reverse" revD := by
  intro pins s σ H x vs v us Q I rx rv h
  obtain ⟨a, xs, M, ds, as, Qd, rfl, hH, hM, sh, sa, hf, k⟩ := h
  match as, sa, hf with
  | [], sa, hf =>
    obtain rfl : vs = [] := sa
    exact mt_reverse pins s σ H _ _ v us Q I rx rv ⟨a, xs, rfl, rfl, hH, k _ .non .non _ hf (shl_rev sh) rfl⟩

/-! ### a < b < c of ints -/
def wI (wa : WO) (k : Int → Env → Prop) (E : ED) : Env → Prop := fun ρ => wa ρ (fun o ρ' => opnv ρ' o fun d => match d with
  | .int i => k i ρ'
  | _ => False) E
def wChain (p q : Int → Int → Bool) (wa wb wc : WO) : WO := fun ρ Q E => wI wa (fun i => wI wb (fun j ρ2 => if p i j = true then wI wc (fun l ρ3 => Q (.tm 0 (.bl (q j l))) ρ3) E ρ2 else Q (.tm 0 (.bl false)) ρ2) E) E ρ
theorem lift_wI {g : G} {wa : WO} {k : Int → Env → Prop} {E : ED} {M0 : Addr → Prop} {ρ : Env} {F : List Addr} {σ : St} {H : Hp} {R : V → Hp → Prop} (s : S g M0 H σ ρ F) (h : wI wa k E ρ) (lk : Lk g W M0 H σ F E)
    (c : ∀ i ρ1 H1 F1, k i ρ1 → S g M0 H1 σ ρ1 F1 → Tr H F H1 F1 → R (.int i) H1) : liftO g W wa σ H R :=
  ⟨M0, ρ, F, _, E, s, h, fun o ρ1 v H1 F1 T TD hq ho s1 l1 t1 => by
    obtain ⟨d, hd, sh⟩ := opnv_one s1 l1 ho hq
    cases d with
    | int i =>
      obtain rfl : v = .int i := sh
      obtain ⟨F2, s2, t2⟩ := s1.letgo l1
      exact c i ρ1 H1 F2 hd s2 (t1.trans t2)
    | _ => exact hd.elim, lk⟩
variable {ea eb ec : Expr} {wa wb wc : WO} {op op' : CmpOp} {q q' : Int → Int → Bool} {g : G} {pos : Pos}
theorem do_chain (h0 : OpR X (compareOp op) (rI0 fun i j => .bl (q i j))) (h1 : OpR X (compareOp op') (rI0 fun i j => .bl (q' i j))) (ha : DO X g W ea wa) (hb : DO X g W eb wb) (hc : DO X g W ec wc)
    (hm : lastMarks [op, op'] [eb, ec] = false := by with_unfolding_all rfl) : DO X g W (.Compare ea [op, op'] [eb, ec] pos) (wChain q q' wa wb wc) := PE.weak (pe_chain h0 h1 ha hb hc hm) fun σ H Q h => by
  obtain ⟨M0, ρ, F, Qd, Ed, s, hw, k, lk⟩ := h
  have fin : ∀ (b : Bool) (ρ' : Env) (H' : Hp) (F' : List Addr), Qd (.tm 0 (.bl b)) ρ' → S g M0 H' σ ρ' F' → Tr H F H' F' → Q (.bl b) H' := fun b ρ' H' F' hq s' t' => by
    obtain ⟨F2, s2, t2⟩ := S.res (T := []) (TD := []) (n := 0) (d := .bl b) (v := .bl b) (by simpa using s') s'.len (NewV.sh rfl)
    exact k (.tm 0 (.bl b)) ρ' _ H' F2 [some (.bl b)] [some (0, .bl b)] hq ⟨_, [], [], [], rfl, rfl, rfl, rfl, rfl, rfl⟩ s2 s'.len (t'.trans t2)
  refine lift_wI s hw lk fun i ρ1 H1 F1 h1 s1 t1 => lift_wI s1 h1 (lk.step t1) fun j ρ2 H2 F2 h2 s2 t2 => ⟨i, j, rfl, rfl, q i j, rfl, ?_⟩
  cases e : q i j with
  | true =>
    rw [e, if_pos rfl] at h2
    exact iteT (lift_wI s2 h2 (lk.step (t1.trans t2)) fun l ρ3 H3 F3 h3 s3 t3 => ⟨j, l, rfl, rfl, fin _ ρ3 H3 F3 h3 s3 ((t1.trans t2).trans t3)⟩)
  | false =>
    rw [e, if_neg Bool.false_ne_true] at h2
    exact iteF (fin false ρ2 H2 F2 h2 s2 (t1.trans t2))
/-- a bool's expression as a test -/
theorem dt_bool (ha : DO X g W ea wa) (he : ∀ whole, isTrue ea X.env whole = (do let v ← whole; standAt ea.pos; holding [v] (truthy v)) := by intro _; rfl) : DT X g W ea (wB wa) := PT.weak (pt_val ha he) fun σ H Q h => by
  obtain ⟨M0, ρ, F, Qd, Ed, s, hw, kk, lk⟩ := h
  refine ⟨M0, ρ, F, _, Ed, s, hw, fun o ρ1 v H1 F1 T TD hq ho s1 l1 t1 => ?_, lk⟩
  match o, hq, ho with
  | .tm n (.bl b), hq, ho =>
    obtain ⟨d, hd, sh⟩ := opnv_one (k := fun d => d = .bl b) s1 l1 ho rfl
    subst hd
    obtain ⟨F2, s2, t2⟩ := s1.letgo l1
    exact ⟨b, sh, kk b ρ1 H1 F2 hq s2 (t1.trans t2)⟩
theorem dt_chain (h0 : OpR X (compareOp op) (rI0 fun i j => .bl (q i j))) (h1 : OpR X (compareOp op') (rI0 fun i j => .bl (q' i j))) (ha : DO X g W ea wa) (hb : DO X g W eb wb) (hc : DO X g W ec wc)
    (hm : lastMarks [op, op'] [eb, ec] = false := by with_unfolding_all rfl) : DT X g W (.Compare ea [op, op'] [eb, ec] pos) (wB (wChain q q' wa wb wc)) := PT.weak (pt_chain h0 h1 ha hb hc hm) fun σ H Q h => by
  obtain ⟨M0, ρ, F, Qd, Ed, s, hw, k, lk⟩ := h
  refine lift_wI s hw lk fun i ρ1 H1 F1 h1 s1 t1 => lift_wI s1 h1 (lk.step t1) fun j ρ2 H2 F2 h2 s2 t2 => ⟨i, j, rfl, rfl, q i j, rfl, ?_⟩
  cases e : q i j with
  | true =>
    rw [e, if_pos rfl] at h2
    exact iteT (lift_wI s2 h2 (lk.step (t1.trans t2)) fun l ρ3 H3 F3 h3 s3 t3 => ⟨j, l, rfl, rfl, _, rfl, k _ ρ3 H3 F3 h3 s3 ((t1.trans t2).trans t3)⟩)
  | false =>
    rw [e, if_neg Bool.false_ne_true] at h2
    exact iteF ⟨false, rfl, k false ρ2 H2 F2 h2 s2 (t1.trans t2)⟩
end
end Z

set_option Elab.async false
set_option linter.all false
set_option maxRecDepth 100000
set_option maxHeartbeats 4000000
/-! Dp13: raise of own errors; a def's context. -/
namespace Z
open PySem PySem.Spec PyProof.Rows L2
/-- an own error's __init__: its arguments become its fields, in order -/
def spInit (K : PySem.W.Frag) (C : Addr) (ns : List Str) : Sp := fun vs H Q _ => ∃ a ys, vs = .ref a :: ys ∧ ys.length = ns.length ∧ H a = some (exo a C none) ∧ OexC K C ∧
  ∀ dx H', H dx = none → dx ≠ a → H' dx = some (exd dx (ns.zip ys).reverse) → H' a = some (exo a C (some dx)) → (∀ b, b ≠ a → b ≠ dx → H' b = H b) → Q .non H'
theorem init1_pure {K : PySem.W.Frag} {C : Addr} {f : Str} {vs : List V} {H : Hp} {Q : VK} {E : XK} {N : List Str} (hN : N.length = 2) (no : PySem.W.findIn K (.ref C) f = some none) (h : spInit K C [f] vs H Q E) :
    tOst K f (tVar 0) (tVar 1) { nx := fun _ H' => Q .non H', rt := Q } (L2.start N vs) H := by
  obtain ⟨a, ys, rfl, hl, ha, T, k⟩ := h
  match ys, hl with
  | [y], _ =>
    refine ⟨y, rfl, .ref a, rfl, a, C, rfl, T, no, .inl ⟨ha, fun dx hd ne => k dx _ hd ne ?_ upd_same fun b h1 h2 => ?_⟩⟩
    · rw [upd_ne ne, upd_same]; rfl
    · rw [upd_ne h1, upd_ne h2]
theorem init2_pure {K : PySem.W.Frag} {C : Addr} {f1 f2 : Str} {vs : List V} {H : Hp} {Q : VK} {E : XK} {N : List Str} (hN : N.length = 3) (no1 : PySem.W.findIn K (.ref C) f1 = some none) (no2 : PySem.W.findIn K (.ref C) f2 = some none) (h : spInit K C [f1, f2] vs H Q E) :
    tSeq (tOst K f1 (tVar 0) (tVar 1)) (tOst K f2 (tVar 0) (tVar 2)) { nx := fun _ H' => Q .non H', rt := Q } (L2.start N vs) H := by
  obtain ⟨a, ys, rfl, hl, ha, T, k⟩ := h
  match ys, hl with
  | [y, z], _ =>
    refine ⟨y, rfl, .ref a, rfl, a, C, rfl, T, no1, .inl ⟨ha, fun dx hd ne => ⟨z, rfl, .ref a, rfl, a, C, rfl, T, no2, .inr ⟨dx, [(f1, y)], upd_same, ?_, (by show 1 ≤ 900; decide), k dx _ hd ne ?_ ?_ fun b h1 h2 => ?_⟩⟩⟩⟩
    · rw [upd_ne ne, upd_same]
    · rw [upd_same]; rfl
    · rw [upd_ne (Ne.symm ne), upd_same]
    · rw [upd_ne h2, upd_ne h1, upd_ne h2]
/-- an own error, as the text has it -/
structure ExcZ (P : Program) (w : World) (K : PySem.W.Frag) (mg : Str → Option Value) (base : Heap) (k : Nat) (x : Str) (ns : List Str) : Prop where
  oex : OexC K (He.ga K x)
  gl : mg x = some (.ref (He.ga K x))
  ex : ∃ fI fd ps, PySem.W.findIn K (.ref (He.ga K x)) "__init__" = some (some (.ref fI)) ∧ PySem.W.typeIn K (.ref fI) = some (.type "function") ∧ FnOk P w K mg base (L2.CX P w) k fI fd ps (spInit K (He.ga K x) ns) ∧ Binds K fd ps []
section
variable {X : Cx} {W : WX} {io : Io} {e : Expr} {es : List Expr} {wr : WOs} {pos p q : Pos}
theorem do_bltn {x : Str} {v : V} {u : Value} {d : D} {g : G} (hg : Gl X x) (hm : X.mg x = none) (hv : bootBuiltins x = some u) (r : RelV v u) (hd : scV d = some v) (hn : x ≠ "__name__" := by decide) (hdb : (x == ("__debug__" : Str)) = false := by decide) : DO X g W (.Name x pos) (wC d) :=
  PE.weak (pe_bltn hg hm hv r hn hdb) fun σ H Q h => lift_sc hd h
/-- a name of the def, by its slot -/
theorem dv {g : G} (i : Nat) {x : Str} (hN : X.N[i]? = some x := by rfl) (hv : Vis X.env.scope x := by first | exact Or.inl rfl | exact Or.inr (Or.inl rfl) | exact Or.inr (Or.inr rfl)) (hd : (x == ("__debug__" : Str)) = false := by decide) (hcd : (x == ("__classdict__" : Str)) = false := by decide) : DO X g W (.Name x pos) (wV i) := do_var hN hv hd hcd
def wRaise (x : Str) (ns : List Str) (wr : WOs) : WS := fun D ρ => wr ρ (fun os ρ' => toVals ρ' os fun nds ρ'' => nds.length = ns.length ∧ ns.length ≤ 100 ∧ D.ex (x, ns.reverse, (nds.map (·.2)).reverse) ρ'') D.ex
theorem zip_rev {α β : Type} : ∀ {l : List α} {r : List β}, l.length = r.length → (l.zip r).reverse = l.reverse.zip r.reverse
  | [], [], _ => rfl
  | a :: l, b :: r, h => by
    rw [List.zip_cons_cons, List.reverse_cons, List.reverse_cons, List.reverse_cons, zip_rev (by simpa using h), List.zip_append (by simpa using h)]
    rfl
theorem ds_raise {x : Str} {ns : List Str} {k : Nat} (T : ExcZ X.prog X.w X.K X.mg X.base k x ns) (hr : Room (k + 1) X.A) (hc : X.calm = true) (tk : Takes X W) (hg : Gl X x) (ha : DOs X ⟨X.K, none⟩ W (e :: es) wr) (hdb : (x == ("__debug__" : Str)) = false := by decide)
    (he : starEach (e :: es) X.env = (false, eval e X.env) :: starEach es X.env := by rfl) (hpl : (backTo q (starEach es X.env)).any (·.1) = false := by rfl) : DS X ⟨X.K, none⟩ W io (.Raise (some (.Call (.Name x p) (e :: es) [] q)) none pos) (wRaise x ns wr) := by
  obtain ⟨fI, fd, ps, hi, ht, F, hb⟩ := T.ex
  refine PS.weak (ps_raise hc tk (pmk_oex (dvs := []) (ds := []) T.oex hi ht F hr hb .nil passL hg T.gl ha hdb he hpl)) fun U σ H h => ?_
  obtain ⟨M0, ρ, F, D, pn, s, pp, hw, c⟩ := h
  refine ⟨M0, ρ, F, _, _, s, hw, fun os ρ1 vs H1 F1 TT TD hq ho s1 l1 t1 => ?_, c.lk pp⟩
  obtain ⟨nds, ρ2, F2, T2, TD2, ⟨hn, hsm, hx⟩, s2, l2, t2, sh⟩ := disp s1 l1 ho hq
  have lv : vs.length = ns.length := by rw [← shl_len sh, List.length_map, hn]
  refine ⟨by omega, fun a na => ?_⟩
  rw [List.append_nil]
  refine ⟨a, vs, rfl, lv, upd_same, T.oex, fun dx H2 nd ne h1 h2 h3 => ⟨rfl, dx, _, h2, h1, ?_, ?_⟩⟩
  · rw [upd_ne ne] at nd; exact nd
  have nd1 : H1 dx = none := by rw [upd_ne ne] at nd; exact nd
  have eH : upd (del H2 a) dx (.xd (ns.zip vs).reverse) = upd H1 dx (.xd (ns.zip vs).reverse) := by
    funext b
    by_cases hb : b = dx
    · rw [hb, upd_same, upd_same]
    · rw [upd_ne hb, upd_ne hb]
      by_cases ha : b = a
      · rw [ha, del_same]; exact na.symm
      · rw [del_ne ha, h3 b ha hb, upd_ne ha]
  rw [eH]
  obtain ⟨Fa, Fb, rfl, ea, eb⟩ := s2.env.app l2
  have s3 : S ⟨X.K, none⟩ M0 H1 σ ρ2 Fa := by
    obtain ⟨n1, n2, n3⟩ := List.nodup_append.mp s2.nd
    exact ⟨ea.less fun a z => z.imp (fun z => z) (List.mem_append_left _), n1, fun a ha => s2.dj a (List.mem_append_left _ ha), s2.tk⟩
  have sm : Same H1 (upd H1 dx (.xd (ns.zip vs).reverse)) := fun b u e => by rw [upd_ne (ne_of_none e nd1)]; exact e
  have s4 := (s3.fresh (o := .xd (ns.zip vs).reverse) nd1).less0 (M0' := M0) fun a z => .inl z
  refine c.ex _ ρ2 σ _ Fa (.ref (He.ga X.K x)) (some dx) hx s4 pp ((t1.trans t2).trans ⟨fun a o e n => sm a o e, fun a z => .inl (List.mem_append_left _ z)⟩) ⟨rfl, .inr ⟨dx, vs.reverse, rfl, fun z => ?_, ?_, ?_, ?_⟩⟩
  · rcases z with z | z
    · exact s2.tk dx z nd1
    · exact s3.tracked dx z nd1
  · rw [upd_same, zip_rev lv.symm]
  · simp [lv]
  · exact shl_rev (ShL.keep (M := fun a => M0 a ∨ a ∈ Fa ++ Fb) (fun a z => .inl (z.imp (fun z => z) (List.mem_append_left _))) (fun a o e _ => sm a o e) _ vs sh)
end
/-! ### a def's context -/
section
variable {P : Program} {w : World} {K : PySem.W.Frag} {mg : Str → Option Value} {base : Heap} {N : List Str} {qual : Str} {scope : Scope} {f : Addr} {cd : Value} {A : Around} {outer : List PySem.Env} {s : Shared} {H : Hp} {E : XK}
abbrev cxD (P : Program) (w : World) (K : PySem.W.Frag) (mg : Str → Option Value) (base : Heap) (N : List Str) (qual : Str) (scope : Scope) (f : Addr) (cd : Value) (A : Around) (outer : List PySem.Env) (s : Shared) (H : Hp) (E : XK) : Cx := cxOf (L2.CX P w) P w K mg base N qual scope f cd A outer s H E
theorem takesD : Takes (cxD P w K mg base N qual scope f cd A outer s H E) (fun cls d _ H => E cls d H) := takes_of rfl rfl rfl rfl
theorem passesD : PassesOwn (model P w) (cxD P w K mg base N qual scope f cd A outer s H E).A (cxD P w K mg base N qual scope f cd A outer s H E).env (cxD P w K mg base N qual scope f cd A outer s H E).xe := passes_of (K := fun e s'' => L2.CX P w outer H s E e s'') rfl
end
end Z

set_option Elab.async false
set_option linter.all false
set_option maxRecDepth 100000
set_option maxHeartbeats 4000000
/-! Dp14: enumerate over a list, over a tuple. -/
namespace Z
open PySem PySem.Spec PyProof.Rows L2
theorem meets_enum1 {v : Value} {ob : Obj} {HH : Heap → Prop} (bg : Begins v ob HH) : Meets (Builtin.«enumerate.__new__» ⟨[.type "enumerate", v], []⟩) (fun _ R s =>
    HH s.heap ∧ R (.ok (.ret (.ref (s.heap.push ob).objs.size))) { s with heap := (s.heap.push ob).push { cls := .type "enumerate", data := .fields #[.none, .bool false, .ref s.heap.objs.size, rawInt 0, .none, .none] } }) :=
  Meets.of_wp fun prog w A R s hh => by
    rcases s with ⟨hp, gg, dd, tk, oo⟩
    rcases hh with ⟨hA, hB⟩
    have hsub := sub_enumerate
    have it1 : ∀ {B : Around} {E Q : Value → Shared → Prop}, Q (.ref hp.objs.size) ⟨hp.push ob, gg, dd, tk, oo⟩ → wpAny (model prog w) B (pyIter v) Q E ⟨hp, gg, dd, tk, oo⟩ := fun q => bg.iter prog w _ _ ⟨hp, gg, dd, tk, oo⟩ _ hA q
    wp_walk using it1
    refine wpAny_stack_any fun _ => wpAny_pure ?_
    split
    · rename_i c _ _ _ _ _
      cases (c == Value.type "enumerate") <;> (wp_walk using it1; exact ⟨_, rfl, hB⟩)
    · wp_walk using it1; exact ⟨_, rfl, hB⟩
section
variable {prog : Program} {w : World} {A : Around} {E : Value → Shared → Prop} {s : Shared}
theorem call_enum1 {v : Value} {ob : Obj} {HH : Heap → Prop} {Q : Value → Shared → Prop} (bg : Begins v ob HH) (hA : HH s.heap)
    (k : ∀ h2, IsEnum h2 (s.heap.objs.size + 1) s.heap.objs.size 0 .none → h2.get? s.heap.objs.size = some ob → (∀ b o, s.heap.get? b = some o → h2.get? b = some o) → Q (.ref (s.heap.objs.size + 1)) { s with heap := h2 }) :
    wpAny (model prog w) A (call (.type "enumerate") [v]) Q E s := by
  refine callType_new F.called_enumerate (by decide) (F.typeCall_enumerate_1 _) (F.newCall_enumerate_1 _) (fun o => F.args_object_init_2 o _) F.entry_enumerate_new (meets_enum1 bg) ⟨hA, ?_⟩
  have z1 : (s.heap.push ob).objs.size = s.heap.objs.size + 1 := Heap.size_push ..
  show _ ∧ _
  rw [z1]
  have en := Heap.get?_push_size (s.heap.push ob) (o := { cls := .type "enumerate", data := .fields #[.none, .bool false, .ref s.heap.objs.size, rawInt 0, .none, .none] }) rfl
  rw [z1] at en
  exact ⟨⟨_, en, rfl⟩, k _ en (Heap.get?_push_of_some _ (Heap.get?_push_size _ bg.free)) fun _ _ x => Heap.get?_push_of_some _ (Heap.get?_push_of_some _ x)⟩
end
/-- the tuple at a, its items in new pairs -/
def Iet (K : PySem.W.Frag) (a : Addr) : It where
  go := fun i H => ∃ (xs : List V) (x : V), SqT K H a xs ∧ xs[i]? = some x
  yld := fun i H v H2 => ∃ T x, v = .ref T ∧ H T = none ∧ H2 = upd H T (.tup [.int (i : Nat), x]) ∧ ∀ xs, SqT K H a xs → xs[i]? = some x
  stop := fun i H => ∃ xs : List V, SqT K H a xs ∧ xs.length ≤ i
theorem turn_enumT {P : Program} {w : World} {K : PySem.W.Frag} {elts : List Expr} {kk : Nat} {tpos : Pos} (a e it : Addr) :
    Turn P w K (.Tuple elts kk tpos) (Iet K a) [e, it] e (fun i h => (∃ old, IsEnum h e it ((i : Nat) : Int) old) ∧ h.IsTupleIter it a i ∧ e ≠ it) where
  mem := List.mem_cons_self
  obj := fun i h st b hb => by
    rcases st with ⟨⟨old, h1⟩, ⟨ob, h2, h3, h4⟩, h5⟩
    have cs : b = e ∨ b = it := by simpa using hb
    rcases cs with rfl | rfl
    · exact ⟨_, h1, fun v q => nomatch q⟩
    · exact ⟨ob, h2, fun v q => by rw [h4] at q; cases q⟩
  keep := fun i h h2 st k => ⟨st.1.elim fun old q => ⟨old, k e List.mem_cons_self _ q⟩, st.2.1.at fun o q => k it (by simp) o q, st.2.2⟩
  item := by
    rintro X rfl rfl rfl hc i pins s σ H E I hf ⟨⟨old, he⟩, hit, hne⟩ ⟨xs, x, hq, hx⟩
    obtain ⟨its, rv, tp, _⟩ := I.tuple hq
    obtain ⟨u, hu, ru⟩ := rv.get hx
    have he1 : e < s.heap.objs.size := Heap.lt_size he
    have he2 : it < s.heap.objs.size := by
      obtain ⟨_, q, _⟩ := hit
      exact Heap.lt_size q
    by_cases hta : a = it
    · exfalso
      subst hta
      obtain ⟨o1, q1, q2, _⟩ := hit
      obtain ⟨o2, q3, q4, _⟩ := tp
      rw [q1] at q3; cases q3
      rw [q2] at q4
      exact absurd q4 (by decide)
    by_cases hae : a = e
    · exfalso
      subst hae
      obtain ⟨o2, q3, q4, _⟩ := tp
      have he' : s.heap.get? a = _ := he
      rw [he'] at q3; cases q3
      have q5 : Value.type "enumerate" = .type "tuple" := q4
      exact absurd q5 (by decide)
    have hsz : i < its.toArray.size := by
      have := (List.getElem?_eq_some_iff.mp hu).1
      simpa using this
    refine wpAny_pyNext_enum_itemD (Draws.tuple (A := X.A.in1) (I.ok.hd hc) it a hta its.toArray) he ⟨hit, tp⟩ hsz hne (by simp; exact ⟨hne, fun q => hae q.symm⟩) fun y h2 tk hy ho st2 hT _ hk => ?_
    have ey : y = u := by
      have : its.toArray[i]? = some u := by simpa using hu
      rw [this] at hy; exact (Option.some.inj hy).symm
    subst ey
    refine ⟨_, rfl, wpAny_letOwnedTupleGo_enum (s := { s with heap := h2, toks := tk + 1 }) ho fun h3 h3e sb => ?_⟩
    have hT3 : h3.get? s.heap.objs.size = some { cls := .type "tuple", data := .seq #[.int i tk, y] } := (sb.2 _ (Nat.ne_of_gt he1)).trans hT
    have nw : ObjOk X.prog X.w (upd H s.heap.objs.size (.tup [.int (i : Nat), x])) h3 s.heap.objs.size (.tup [.int (i : Nat), x]) :=
      ⟨(by decide : 2 ≤ sizeLine), [.int i tk, y], .cons ⟨_, rfl⟩ (.cons ru .nil), ⟨_, hT3, rfl, _, rfl⟩⟩
    have I3 : Inv X pins σ (upd H s.heap.objs.size (.tup [.int (i : Nat), x])) { s with heap := h3, toks := tk + 1 } :=
      I.turnedNew (ch := [e, it]) (fun b o nb q => (sb.2 b fun z => nb (z ▸ List.mem_cons_self)).trans (hk b o (fun z => nb (z ▸ List.mem_cons_self)) (fun z => nb (by simp [z])) q)) hf (Nat.le_refl _) nw
    refine ⟨.ref s.heap.objs.size, _, I3, rfl, ⟨_, x, rfl, I.hok.fresh (Nat.le_refl _), rfl, fun ys hy => (I.tuple_inj hy hq) ▸ hx⟩, ⟨⟨y, by
      have e1 : ((i + 1 : Nat) : Int) = (i : Int) + 1 := rfl
      rw [e1]; exact h3e⟩, st2.1.at fun o q => (sb.2 it (Ne.symm hne)).trans q, hne⟩, fun b hb => ?_⟩
    have cs : b = e ∨ b = it := by simpa using hb
    have lt : b < s.heap.objs.size := cs.elim (fun z => z ▸ he1) fun z => z ▸ he2
    exact (upd_ne (Nat.ne_of_lt lt)).trans (hf b hb).1
  done := by
    rintro X rfl rfl rfl hc i pins s σ H E I hf ⟨⟨old, he⟩, hit, hne⟩ ⟨xs, hq, hx⟩
    obtain ⟨its, rv, tp, _⟩ := I.tuple hq
    obtain ⟨f0, f1, f2, f3, f4, f5⟩ := hf it (by simp)
    have ll := rv.length
    by_cases hta : a = it
    · exfalso
      subst hta
      obtain ⟨o1, q1, q2, _⟩ := hit
      obtain ⟨o2, q3, q4, _⟩ := tp
      rw [q1] at q3; cases q3
      rw [q2] at q4
      exact absurd q4 (by decide)
    have D0 : Draws X.prog X.w X.A.in1 it [it, a] i (fun _ _ => True) (fun j h => j = i ∧ h.IsTupleIter it a j ∧ h.IsTuple a its.toArray) :=
      { live := fun j h st => st.2.1.elim fun o q => ⟨o, q.1⟩
        frame := fun j h h2 st kk => ⟨st.1, st.2.1.at fun o q => kk it (by simp) o q, st.2.2.at fun o q => kk a (by simp) o q⟩
        item := fun j s Q E hj st q => absurd st.1 (Nat.ne_of_lt hj)
        done := fun s Q E st q => wpAny_nextOf_tuple_end (I.ok.hd hc) st.2.1 st.2.2 (Array.getElem?_eq_none (by simp; omega)) q }
    exact wpAny_pyNext_enum_endD D0 he ⟨rfl, hit, tp⟩ fun h2 eb => ⟨rfl, I.turned (t' := s.toks) (fun b o hb q => eb b o hb q) f0 f1 f3 f4 f5⟩
  self := fun A i s Q E st h => st.1.elim fun _ he => wpAny_pyIter_enum he h
def iEnT (K : PySem.W.Frag) (ta : TA) : TI := fun σ H R => ta σ H fun vs H1 => ∃ a xs, vs = [.ref a] ∧ SqT K H1 a xs ∧ R (Iet K a) H1
theorem pi_enumT {X : Cx} {e : Expr} {ta : TA} {p pos tpos : Pos} {elts : List Expr} {kk : Nat} (hg : Gl X "enumerate") (hm : X.mg "enumerate" = none) (ha : PA X [e] ta) (hs : starEach [e] X.env = [(false, eval e X.env)] := by rfl) :
    PI X (.Tuple elts kk tpos) (.Call (.Name "enumerate" p) [e] [] pos) (iEnT X.K ta) := by
  constructor
  intro pins s σ H R I h
  refine Call_ (ld_blt I hg hm boot_enumerate (PyProof.Rows.callWith_type1 (thn (ha.run pos pins s σ H _ I h) fun us s1 ⟨vs, H1, I1, r1, q1⟩ => ?_) hs rfl))
  obtain ⟨a, xs, rfl, hq, q⟩ := q1
  match r1 with
  | .cons r .nil =>
    cases r
    obtain ⟨its, rv, tp, hz⟩ := I1.tuple hq
    refine call_enum1 (begins_tuple a its.toArray) tp fun h2 he hit hk => wpAny_pyIter_enum he ?_
    refine ⟨_, [s1.heap.objs.size + 1, s1.heap.objs.size], _, _, H1, rfl, I1.kept (t' := s1.toks) hk, turn_enumT a _ s1.heap.objs.size, ⟨⟨.none, he⟩, ⟨_, hit, rfl, rfl⟩, Nat.succ_ne_self _⟩, fun b hb => ?_, q⟩
    have cs : b = s1.heap.objs.size + 1 ∨ b = s1.heap.objs.size := by simpa using hb
    have le : s1.heap.objs.size ≤ b := cs.elim (fun z => z ▸ Nat.le_add_right _ _) fun z => Nat.le_of_eq z.symm
    exact I1.fpOk le (I1.hok.fresh le)
/-- the items in pairs with their places -/
def enumL (ds : List D) : List D := ds.zipIdx.map fun p => D.tup [.int ((p.2 : Nat) : Int), p.1]
theorem enumL_len {ds : List D} : (enumL ds).length = ds.length := by unfold enumL; simp
theorem enumL_get {ds : List D} {i : Nat} {d : D} (h : ds[i]? = some d) : (enumL ds)[i]? = some (D.tup [.int ((i : Nat) : Int), d]) := by
  unfold enumL
  rw [List.getElem?_map, List.getElem?_zipIdx, h]
  simp
section
variable {X : Cx} {xa : Option (Addr × Addr)} {g : G} {W : WX} {io : Io} {tg e : Expr} {wa : WO} {pos p tpos : Pos} {elts : List Expr} {kk : Nat}
def wIEt (wa : WO) : WI := fun ρ Q E => wa ρ (fun o ρ' => toVal ρ' o fun n d ρ'' => match d with
  | .tup ds => Q (enumL ds) ρ''
  | _ => False) E
def wIEl (wa : WO) : WI := fun ρ Q E => wa ρ (fun o ρ' => toVal ρ' o fun n d ρ'' => match d with
  | .lst ds => Q (enumL ds) ρ''
  | _ => False) E
theorem di_enumT (hg : Gl X "enumerate") (hm : X.mg "enumerate" = none) (ha : DO X (gX X xa) W e wa) (hs : starEach [e] X.env = [(false, eval e X.env)] := by rfl) : DI X (gX X xa) W (.Tuple elts kk tpos) (.Call (.Name "enumerate" p) [e] [] pos) (wIEt wa) := PI.weak (pi_enumT hg hm (pa_cons ha pa_nil hs) hs) fun σ H R h => by
  obtain ⟨M0, ρ, F, Qd, Ed, s, hw, k, lk⟩ := h
  refine ⟨M0, ρ, F, _, Ed, s, hw, fun o ρ1 v H1 F1 T TD hq ho s1 l1 t1 => ?_, lk⟩
  obtain ⟨n, d, ρ2, F2, h2, s2, l2, t2⟩ := s1.val1 l1 ho hq
  cases d with
  | tup ds =>
    obtain ⟨Fa, Fb, s3, t3, hh⟩ := held s2 l2
    obtain ⟨a, vs, rfl, hr, _⟩ := hh (fun a => M0 a ∨ a ∈ Fb) H1 Fa (fun a z => .inl (.inl z)) Tr.refl
    refine ⟨a, vs, rfl, hr.sq, k (enumL ds) ρ2 _ H1 Fa Fb h2 s3 ((t1.trans t2).trans t3) s2.tk fun M1 H2 F3 m t tk => ?_⟩
    obtain ⟨b, us, eb, hr2, sh⟩ := hh M1 H2 F3 m t
    injection eb with eb
    subst eb
    have len := shl_len sh
    rw [enumL_len]
    refine ⟨fun i hi => ⟨us, us[i]'(by omega), hr2.sq, by simp⟩, fun i hi => ⟨us, hr2.sq, by omega⟩, fun i x H3 hi y => ?_⟩
    obtain ⟨T, x1, rfl, hT, rfl, y1⟩ := y
    have yx := y1 us hr2.sq
    cases e : ds[i]? with
    | none => exact absurd (List.getElem?_eq_none_iff.mp e) (by omega)
    | some d =>
      obtain ⟨v, hv, sv⟩ := shl_get sh e
      rw [yx] at hv
      cases hv
      exact ⟨_, enumL_get e, NewV.tup tk ⟨_, [x1], rfl, rfl, x1, [], rfl, sv, rfl⟩ hT⟩
  | _ => exact h2.elim
theorem di_enumL (hg : Gl X "enumerate") (hm : X.mg "enumerate" = none) (ha : DO X (gX X xa) W e wa) (hs : starEach [e] X.env = [(false, eval e X.env)] := by rfl) : DI X (gX X xa) W (.Tuple elts kk tpos) (.Call (.Name "enumerate" p) [e] [] pos) (wIEl wa) := PI.weak (pi_enum hg hm (pa_cons ha pa_nil hs) hs) fun σ H R h => by
  obtain ⟨M0, ρ, F, Qd, Ed, s, hw, k, lk⟩ := h
  refine ⟨M0, ρ, F, _, Ed, s, hw, fun o ρ1 v H1 F1 T TD hq ho s1 l1 t1 => ?_, lk⟩
  obtain ⟨n, d, ρ2, F2, h2, s2, l2, t2⟩ := s1.val1 l1 ho hq
  cases d with
  | lst ds =>
    obtain ⟨Fa, Fb, s3, t3, hh⟩ := held s2 l2
    obtain ⟨a, vs, rfl, hr, _⟩ := hh (fun a => M0 a ∨ a ∈ Fb) H1 Fa (fun a z => .inl (.inl z)) Tr.refl
    refine ⟨a, vs, rfl, .of hr, k (enumL ds) ρ2 _ H1 Fa Fb h2 s3 ((t1.trans t2).trans t3) s2.tk fun M1 H2 F3 m t tk => ?_⟩
    obtain ⟨b, us, eb, hr2, sh⟩ := hh M1 H2 F3 m t
    injection eb with eb
    subst eb
    have len := shl_len sh
    rw [enumL_len]
    refine ⟨fun i hi => ⟨us, us[i]'(by omega), .of hr2, by simp⟩, fun i hi => ⟨us, .of hr2, by omega⟩, fun i x H3 hi y => ?_⟩
    obtain ⟨T, x1, rfl, hT, rfl, y1⟩ := y
    have yx := y1 us (.of hr2)
    cases e : ds[i]? with
    | none => exact absurd (List.getElem?_eq_none_iff.mp e) (by omega)
    | some d =>
      obtain ⟨v, hv, sv⟩ := shl_get sh e
      rw [yx] at hv
      cases hv
      exact ⟨_, enumL_get e, NewV.tup tk ⟨_, [x1], rfl, rfl, x1, [], rfl, sv, rfl⟩ hT⟩
  | _ => exact h2.elim
end
end Z

set_option Elab.async false
set_option linter.all false
set_option maxRecDepth 100000
set_option maxHeartbeats 4000000
/-! Dp15: name[i] = e, for a list that is the def's own; small helps of the walk. -/
namespace Z
open PySem PySem.Spec PyProof.Rows L2
def setI (ds : List D) (i : Int) (d : D) : Option (List D) := (ixN ds.length i).map fun j => ds.set j d
def wStore (i : Nat) (wx wa : WO) : WS := fun D ρ => wa ρ (fun o ρ1 => toVal ρ1 o fun _ d ρ2 => isLst ρ2 i (wI wx (fun k ρ3 => onLst ρ3 i fun ds => ∃ ds', setI ds k d = some ds' ∧ D.nx (ρ3.set i (some (1, .lst ds')))) D.ex ρ2)) D.ex
theorem shl_set {g : G} {H : Hp} {M : Addr → Prop} {d : D} {v : V} (hv : Sh g H M d v) : ∀ {ds : List D} {vs : List V} (j : Nat), ShL g H M ds vs → ShL g H M (ds.set j d) (vs.set j v)
  | [], vs, j, h => by
    obtain rfl : vs = [] := h
    exact rfl
  | _ :: ds, _, 0, h => by
    obtain ⟨w, r, rfl, h1, h2⟩ := h
    exact ⟨v, r, rfl, hv, h2⟩
  | _ :: ds, _, j + 1, h => by
    obtain ⟨w, r, rfl, h1, h2⟩ := h
    exact ⟨w, r.set j v, rfl, h1, shl_set hv j h2⟩
section
variable {X : Cx} {g : G} {W : WX} {io : Io} {e ix : Expr} {wa wx : WO} {x : Str} {i : Nat} {p spos pos : Pos}
theorem ds_store (hN : X.N[i]? = some x) (hv : Vis X.env.scope x) (hx : DO X g W ix wx) (he : DO X g W e wa) (hd : (x == ("__debug__" : Str)) = false := by decide) (hcd : (x == ("__classdict__" : Str)) = false := by decide)
    (ha : ∀ v, assign (.Subscript (.Name x p) ix spos) X.env v = (do
      let ov ← holding [v] (eval (.Name x p) X.env)
      let iv ← holding [v, ov] (eval ix X.env)
      standAt spos
      holding [v, ov, iv] (setItem ov iv v)
      release [v, ov, iv] []) := by intro _; rfl)
    (hs : swapsWithSole [.Subscript (.Name x p) ix spos] e pos.line X.env = pure false := by rfl) (hw : swappedStores [.Subscript (.Name x p) ix spos] e X.env = pure none := by rfl)
    (h1 : (assignEach [.Subscript (.Name x p) ix spos] X.env).map (·.2) = [assign (.Subscript (.Name x p) ix spos) X.env] := by rfl) : DS X g W io (.Assign [.Subscript (.Name x p) ix spos] e pos) (wStore i wx wa) :=
  PS.weak (ps_asg he (pg_sub (pe_var hN hv hd hcd) hx set_list ha) hs hw h1) fun T σ H h => by
    obtain ⟨M0, ρ, F, D', pn, s, pp, hwd, c⟩ := h
    refine ⟨M0, ρ, F, _, _, s, hwd, fun o ρ1 v H1 F1 TT TD hq ho s1 l1 t1 => ?_, c.lk pp⟩
    obtain ⟨n, d, ρ2, F2, h2, s2, l2, t2⟩ := s1.val1 l1 ho hq
    obtain ⟨F3, s3, t3⟩ := s2.down (i := ρ2.length) (n := n) (d := d) (m := 0) (by simp) (Nat.zero_le _)
    rw [List.set_append_right _ _ (Nat.le_refl _), Nat.sub_self, List.set_cons_zero] at s3
    obtain ⟨Fa, Fb, rfl, s4, eb⟩ := s3.split l2
    obtain ⟨v', r', G1, G2, ev, rfl, ow, hn⟩ := eb
    injection ev with ev _
    cases ev
    obtain ⟨hn1, hn2⟩ := hn
    obtain ⟨hg1, shv⟩ := ow_zero.mp ow
    subst hg1
    subst hn2
    have s5 : S g M0 H1 σ ρ2 Fa := s4.less0 fun a z => .inl z
    have t5 : Tr H F H1 Fa := (t1.trans t2).trans (t3.trans (by simpa using (Tr.refl : Tr H1 Fa H1 Fa)))
    have shv5 : Sh g H1 (fun a => M0 a ∨ a ∈ Fa) d v := shv.less fun a z => z.elim (fun z => .inl (.inl z)) fun z => .inr z
    obtain ⟨m0, ds0, e0, h5⟩ := isLst_of h2
    obtain ⟨w, _, hw0, _, _⟩ := s5.env.at e0
    refine ⟨w, hw0, lift_wI s5 h5 ((c.lk pp).step t5) fun k ρ3 H3 F3 h3 s6 t6 => ?_⟩
    obtain ⟨n6, ds, e6, ds', es, hn⟩ := onLst_of h3
    obtain ⟨F4, a, xs, t7, _, hσ, hH, hM, sh, step⟩ := s6.change e6
    have ew : w = .ref a := by rw [hσ] at hw0; cases hw0; rfl
    subst ew
    unfold setI at es
    cases ej : ixN ds.length k with
    | none => rw [ej] at es; cases es
    | some j =>
      rw [ej] at es
      obtain rfl : ds.set j d = ds' := Option.some.inj es
      have t67 := t6.trans t7
      have shv6 : Sh g H3 (fun a => M0 a ∨ a ∈ F4) d v := Sh.keep (M := fun a => M0 a ∨ a ∈ Fa) (fun a z => z.elim (fun z => .inl (.inl z)) fun z => (t67.new a z).imp .inr id) (fun a o eo n => t67.keep a o eo fun z => n (.inr z)) d v shv5
      refine ⟨a, xs, k, j, rfl, rfl, hH, by rw [← shl_len sh]; exact ej, ?_⟩
      obtain ⟨F5, s7, t8⟩ := step (ds.set j d) .non .non (xs.set j v) (shl_set shv6 j sh) rfl
      obtain ⟨F6, s8, t9⟩ := s7.letgo (by rw [List.length_set]; exact s6.len)
      exact c.nx _ σ _ F6 hn s8 pp (((t5.trans t67).trans t8).trans t9)
end
end Z

set_option Elab.async false
set_option linter.all false
set_option maxRecDepth 100000
set_option maxHeartbeats 4000000
/-! Dp16: list(range), tuple(range); rules in short form for the printed walks. -/
namespace Z
open PySem PySem.Spec PyProof.Rows L2
section
variable {X : Cx} {xa : Option (Addr × Addr)} {g : G} {W : WX} {io : Io} {a b : Expr} {wa wb : WO} {p p2 p3 pos : Pos}
theorem takesF : Takes X WF := fun u s' h => by
  obtain ⟨_, _, _, _, _, _, _, _, _, _, _, _, _, _, _, _, f⟩ := h
  exact f.elim
def rgD (lo hi : Int) : List D := rngL lo (hi - lo).toNat
def rgOk (lo hi : Int) : Prop := 0 ≤ lo ∧ lo ≤ 16777216 ∧ 0 ≤ hi ∧ hi ≤ 16777216
theorem shl_rg {M : Addr → Prop} {H : Hp} {lo hi : Int} : ShL g H M (rgD lo hi) (rgV lo hi) := by
  unfold rgD rngL rgV
  induction List.range (hi - lo).toNat with
  | nil => exact rfl
  | cons n l ih => exact ⟨_, _, rfl, rfl, ih⟩
def wLR1 (wa : WO) : WO := fun ρ Q E => wI wa (fun n ρ' => rgOk 0 n ∧ Q (.tm 1 (.lst (rgD 0 n))) ρ') E ρ
def wTR1 (wa : WO) : WO := fun ρ Q E => wI wa (fun n ρ' => rgOk 0 n ∧ Q (.tm 0 (.tup (rgD 0 n))) ρ') E ρ
def wLR2 (wa wb : WO) : WO := fun ρ Q E => wI wa (fun m => wI wb (fun n ρ' => rgOk m n ∧ Q (.tm 1 (.lst (rgD m n))) ρ') E) E ρ
def wTR2 (wa wb : WO) : WO := fun ρ Q E => wI wa (fun m => wI wb (fun n ρ' => rgOk m n ∧ Q (.tm 0 (.tup (rgD m n))) ρ') E) E ρ
theorem rgOk.ok {lo hi : Int} (h : rgOk lo hi) : RgOk lo hi := RgOk.of_le h.1 h.2.2.2 h.2.1 h.2.2.1
theorem do_lr1 (hc : X.calm = true) (hl : Gl X "list") (hml : X.mg "list" = none) (hg : Gl X "range") (hm : X.mg "range" = none) (ha : DO X g W a wa) (na : starEach [a] X.env = (false, eval a X.env) :: starEach [] X.env := by rfl)
    (nr : starEach [.Call (.Name "range" p) [a] [] p2] X.env = (false, eval (.Call (.Name "range" p) [a] [] p2) X.env) :: starEach [] X.env := by rfl) : DO X g W (.Call (.Name "list" p3) [.Call (.Name "range" p) [a] [] p2] [] pos) (wLR1 wa) :=
  PE.weak (pe_listRg hc hl hml (prg_1 hg hm ha na) nr) fun σ H Q h => by
    obtain ⟨M0, ρ, F, Qd, Ed, s, hw, k, lk⟩ := h
    refine lift_wI s hw lk fun n ρ1 H1 F1 h1 s1 t1 => ⟨n, rfl, h1.1.ok, fun q hq => ?_⟩
    obtain ⟨F2, s2, t2⟩ := S.res (T := []) (TD := []) (by simpa using s1) s1.len (NewV.lst (fun a z => z.elim (s1.tk a) (s1.tracked a)) shl_rg hq)
    exact k (.tm 1 (.lst (rgD 0 n))) ρ1 _ _ F2 [_] [_] h1.2 ⟨_, [], [], [], rfl, rfl, rfl, rfl, rfl, rfl⟩ s2 s1.len (t1.trans t2)
theorem do_tr1 (hc : X.calm = true) (hl : Gl X "tuple") (hml : X.mg "tuple" = none) (hg : Gl X "range") (hm : X.mg "range" = none) (ha : DO X g W a wa) (na : starEach [a] X.env = (false, eval a X.env) :: starEach [] X.env := by rfl)
    (nr : starEach [.Call (.Name "range" p) [a] [] p2] X.env = (false, eval (.Call (.Name "range" p) [a] [] p2) X.env) :: starEach [] X.env := by rfl) : DO X g W (.Call (.Name "tuple" p3) [.Call (.Name "range" p) [a] [] p2] [] pos) (wTR1 wa) :=
  PE.weak (pe_tupRg hc hl hml (prg_1 hg hm ha na) nr) fun σ H Q h => by
    obtain ⟨M0, ρ, F, Qd, Ed, s, hw, k, lk⟩ := h
    refine lift_wI s hw lk fun n ρ1 H1 F1 h1 s1 t1 => ⟨n, rfl, h1.1.ok, fun q hq => ?_⟩
    obtain ⟨F2, s2, t2⟩ := S.res (T := []) (TD := []) (by simpa using s1) s1.len (NewV.tup (fun a z => z.elim (s1.tk a) (s1.tracked a)) shl_rg hq)
    exact k (.tm 0 (.tup (rgD 0 n))) ρ1 _ _ F2 [_] [_] h1.2 ⟨_, [], [], [], rfl, rfl, rfl, rfl, rfl, rfl⟩ s2 s1.len (t1.trans t2)
theorem do_lr2 (hc : X.calm = true) (hl : Gl X "list") (hml : X.mg "list" = none) (hg : Gl X "range") (hm : X.mg "range" = none) (ha : DO X g W a wa) (hb : DO X g W b wb) (na : starEach [a, b] X.env = (false, eval a X.env) :: starEach [b] X.env := by rfl) (nb : starEach [b] X.env = (false, eval b X.env) :: starEach [] X.env := by rfl)
    (hp : (backTo p2 (starEach [b] X.env)).any (·.1) = false := by rfl)
    (nr : starEach [.Call (.Name "range" p) [a, b] [] p2] X.env = (false, eval (.Call (.Name "range" p) [a, b] [] p2) X.env) :: starEach [] X.env := by rfl) : DO X g W (.Call (.Name "list" p3) [.Call (.Name "range" p) [a, b] [] p2] [] pos) (wLR2 wa wb) :=
  PE.weak (pe_listRg hc hl hml (prg_2 hg hm ha hb na nb hp) nr) fun σ H Q h => by
    obtain ⟨M0, ρ, F, Qd, Ed, s, hw, k, lk⟩ := h
    refine lift_wI s hw lk fun m ρ1 H1 F1 h1 s1 t1 => lift_wI s1 h1 (lk.step t1) fun n ρ2 H2 F2 h2 s2 t2 => ⟨m, n, rfl, rfl, h2.1.ok, fun q hq => ?_⟩
    obtain ⟨F3, s3, t3⟩ := S.res (T := []) (TD := []) (by simpa using s2) s2.len (NewV.lst (fun a z => z.elim (s2.tk a) (s2.tracked a)) shl_rg hq)
    exact k (.tm 1 (.lst (rgD m n))) ρ2 _ _ F3 [_] [_] h2.2 ⟨_, [], [], [], rfl, rfl, rfl, rfl, rfl, rfl⟩ s3 s2.len ((t1.trans t2).trans t3)
theorem do_tr2 (hc : X.calm = true) (hl : Gl X "tuple") (hml : X.mg "tuple" = none) (hg : Gl X "range") (hm : X.mg "range" = none) (ha : DO X g W a wa) (hb : DO X g W b wb) (na : starEach [a, b] X.env = (false, eval a X.env) :: starEach [b] X.env := by rfl) (nb : starEach [b] X.env = (false, eval b X.env) :: starEach [] X.env := by rfl)
    (hp : (backTo p2 (starEach [b] X.env)).any (·.1) = false := by rfl)
    (nr : starEach [.Call (.Name "range" p) [a, b] [] p2] X.env = (false, eval (.Call (.Name "range" p) [a, b] [] p2) X.env) :: starEach [] X.env := by rfl) : DO X g W (.Call (.Name "tuple" p3) [.Call (.Name "range" p) [a, b] [] p2] [] pos) (wTR2 wa wb) :=
  PE.weak (pe_tupRg hc hl hml (prg_2 hg hm ha hb na nb hp) nr) fun σ H Q h => by
    obtain ⟨M0, ρ, F, Qd, Ed, s, hw, k, lk⟩ := h
    refine lift_wI s hw lk fun m ρ1 H1 F1 h1 s1 t1 => lift_wI s1 h1 (lk.step t1) fun n ρ2 H2 F2 h2 s2 t2 => ⟨m, n, rfl, rfl, h2.1.ok, fun q hq => ?_⟩
    obtain ⟨F3, s3, t3⟩ := S.res (T := []) (TD := []) (by simpa using s2) s2.len (NewV.tup (fun a z => z.elim (s2.tk a) (s2.tracked a)) shl_rg hq)
    exact k (.tm 0 (.tup (rgD m n))) ρ2 _ _ F3 [_] [_] h2.2 ⟨_, [], [], [], rfl, rfl, rfl, rfl, rfl, rfl⟩ s3 s2.len ((t1.trans t2).trans t3)
end
section
variable {X : Cx} {xa : Option (Addr × Addr)} {g : G} {W : WX} {io : Io} {e : Expr} {es : List Expr} {wa : WO} {wr : WOs} {p pos spos apos cpos : Pos} {x name : Str} {id : String} {f : Mth}
theorem pgn (hN : X.N.Nodup) (i : Nat) (hi : X.N[i]? = some x := by rfl) (hx : Loc X.env.scope x := by first | exact Or.inl rfl | exact Or.inr rfl) (hf : X.fn x = true ∨ X.env.scope.names.lookup x = some .local := by first | exact .inl rfl | exact .inr rfl) : PG X (.Name x pos) (gName i) := pg_name hN hi hx hf
theorem dsn (hN : X.N.Nodup) (i : Nat) (he : DO X g W e wa) (hi : X.N[i]? = some x := by rfl) (hx : Loc X.env.scope x := by first | exact Or.inl rfl | exact Or.inr rfl) (hio : i < io.N ∧ i ∉ io.l := by decide) (hs : swapsWith e (some (.Name x spos)) pos.line X.env = pure false := by rfl)
    (hf : X.fn x = true ∨ X.env.scope.names.lookup x = some .local := by first | exact .inl rfl | exact .inr rfl) : DS X g W io (.Assign [.Name x spos] e pos) (wAsg (.nm i) wa) := ds_set hN hi hx hio he hs hf
theorem dm0 (i : Nat) (slot : PySem.Slot "list" name id) (hty : typeOf (.builtin id) = pure (.type "method_descriptor")) (hm : MtZ X (gX X xa) id f) (hN : X.N[i]? = some x := by rfl) (hv : Vis X.env.scope x := by first | exact Or.inl rfl | exact Or.inr (Or.inl rfl) | exact Or.inr (Or.inr rfl))
    (hd : (x == ("__debug__" : Str)) = false := by decide) (hcd : (x == ("__classdict__" : Str)) = false := by decide) (hbase : attributeBase (.Name x p) name X.env (eval (.Name x p) X.env) = eval (.Name x p) X.env := by rfl) (hline : (apos.endLine == cpos.line) = true := by rfl) :
    DO X (gX X xa) W (.Call (.Attribute (.Name x p) name apos) [] [] cpos) (wMt0 i f) := do_mt0 slot hty hm hN hv hd hcd hbase hline
end
end Z

set_option Elab.async false
set_option linter.all false
set_option maxRecDepth 100000
set_option maxHeartbeats 4000000
/-! Dp17: the head: a Hook that also tells the own exception classes. -/
namespace Z
open PySem PySem.Spec PyProof.Rows L2
/-- own errors raised; fields of own errors; caught errors whose fields are read; what catches what -/
structure XT where
  xs : List Str
  fs : List (Str × Str)
  xf : List Str
  sb : List (Str × Str × Bool)
def clsB (C : Addr) : Option Obj → Bool
  | some ⟨.type t, _, .cls cd, sl⟩ => decide (t = "type") && ((match cd.mro with
    | .ref C' :: bm => decide (C' = C) && PySem.HandSPX.refsVE bm
    | _ => false) && (cd.hasDict && (!cd.hasDel && (decide (sl.toList.length = 6) && He.eqO sl.toList[4]? (some (some (.builtin "ValueError.__new__")))))))
  | _ => false
theorem arr6 {α : Type} {sl : Array α} {a b c d e f : α} (h : sl.toList = [a, b, c, d, e, f]) : sl = #[a, b, c, d, e, f] := by
  rw [← Array.toArray_toList (xs := sl), h]
theorem clsB_ok {K : PySem.W.Frag} {C : Addr} (h : clsB C (K.lookup C) = true) : ∃ nm q N bs bm sn sub ab col dd k0 k1 k2 k3 k5, K.lookup C = some (excClassObj nm q C N bs bm true sn sub ab col dd k0 k1 k2 k3 k5 "ValueError.__new__") ∧ PySem.HandSPX.refsVE bm = true := by
  revert h
  cases K.lookup C with
  | none => exact fun h => nomatch h
  | some o =>
    obtain ⟨oc, od, dt, sl⟩ := o
    cases oc with
    | type t =>
      cases dt with
      | cls cd =>
        intro h
        obtain ⟨h1, h⟩ := He.ba (show (decide (t = "type") && _) = true from h)
        obtain ⟨h2, h⟩ := He.ba h
        obtain ⟨h3, h⟩ := He.ba h
        obtain ⟨h4, h5⟩ := He.ba h
        obtain ⟨nm, bs, mro, ns, qn, hd, sn, sub, ab, col, del⟩ := cd
        have e1 : t = "type" := of_decide_eq_true h1
        have e3 : hd = true := h3
        have e4 : del = false := by simpa using h4
        subst e1 e3 e4
        revert h2
        cases mro with
        | nil => exact fun z => nomatch z
        | cons m bm =>
          cases m with
          | ref C' =>
            intro h2
            obtain ⟨e2, hv⟩ := He.ba (show (decide (C' = C) && PySem.HandSPX.refsVE bm) = true from h2)
            have e2' : C' = C := of_decide_eq_true e2
            subst e2'
            obtain ⟨e5, e6⟩ := He.ba h5
            have e5' : sl.toList.length = 6 := of_decide_eq_true e5
            have e6' := He.eqO_ok e6
            revert e5' e6'
            generalize e : sl.toList = l
            intro e5' e6'
            match l, e5', e6' with
            | [k0, k1, k2, k3, k4, k5], _, e6' =>
              have e7 : k4 = some (.builtin "ValueError.__new__") := by simpa using e6'
              subst e7
              exact ⟨nm, qn, ns, bs, bm, sn, sub, ab, col, od, k0, k1, k2, k3, k5, by rw [arr6 e], hv⟩
          | _ => exact fun z => nomatch z
      | _ => exact fun h => nomatch h
    | _ => cases dt <;> exact fun h => nomatch h
/-- the class x with an __init__ of its own -/
def oexB (K : PySem.W.Frag) (x : Str) : Bool := clsB (He.ga K x) (K.lookup (He.ga K x)) && (He.eqO (PySem.W.findIn K (.ref (He.ga K x)) "__setattr__") (some (some (.builtin "object.__setattr__"))) && (decide (PySem.W.subIn K (.ref (He.ga K x)) (.type "BaseException") = some true) &&
  (decide (PySem.W.typeIn K (.ref (He.ga K x)) = some (.type "type")) && (PySem.W.keepIn K (.ref (He.ga K x)) && (He.eqO (PySem.W.findIn K (.ref (He.ga K x)) "__init__") (some (some (.ref (He.ma K (He.ga K x) "__init__")))) &&
  decide (PySem.W.typeIn K (.ref (He.ma K (He.ga K x) "__init__")) = some (.type "function")))))))
theorem oexB_ok {K : PySem.W.Frag} {x : Str} (h : oexB K x = true) : OexC K (He.ga K x) ∧ PySem.W.findIn K (.ref (He.ga K x)) "__init__" = some (some (.ref (He.ma K (He.ga K x) "__init__"))) ∧ PySem.W.typeIn K (.ref (He.ma K (He.ga K x) "__init__")) = some (.type "function") := by
  obtain ⟨h1, h⟩ := He.ba h
  obtain ⟨h2, h⟩ := He.ba h
  obtain ⟨h3, h⟩ := He.ba h
  obtain ⟨h4, h⟩ := He.ba h
  obtain ⟨h5, h⟩ := He.ba h
  obtain ⟨h6, h7⟩ := He.ba h
  exact ⟨⟨clsB_ok h1, He.eqO_ok h2, of_decide_eq_true h3, of_decide_eq_true h4, h5⟩, He.eqO_ok h6, of_decide_eq_true h7⟩
def xtB (t : XT) (K : PySem.W.Frag) : Bool := (t.xs.all (oexB K) && t.fs.all fun p => He.eqO (PySem.W.findIn K (.ref (He.ga K p.1)) p.2) (some none)) && ((t.xf.all fun x => xfB K (He.ga K x)) && t.sb.all fun p => decide (PySem.W.exmOne K (.ref (He.ga K p.1)) (.ref (He.ga K p.2.1)) = some p.2.2))
theorem xt_oex {t : XT} {K : PySem.W.Frag} (h : xtB t K = true) {x : Str} (m : x ∈ t.xs) : oexB K x = true := List.all_eq_true.mp (He.ba (He.ba h).1).1 x m
theorem xt_no {t : XT} {K : PySem.W.Frag} (h : xtB t K = true) {p : Str × Str} (m : p ∈ t.fs) : PySem.W.findIn K (.ref (He.ga K p.1)) p.2 = some none := He.eqO_ok (List.all_eq_true.mp (He.ba (He.ba h).1).2 p m)
theorem xt_xf {t : XT} {K : PySem.W.Frag} (h : xtB t K = true) {x : Str} (m : x ∈ t.xf) : XfC K (He.ga K x) := xfB_ok (List.all_eq_true.mp (He.ba (He.ba h).2).1 x m)
theorem xt_sub {t : XT} {K : PySem.W.Frag} (h : xtB t K = true) : SubOk K fun x y => (t.sb.find? fun p => p.1 == x && p.2.1 == y).map (·.2.2) := fun x y b e => by
  have e' : ((t.sb.find? fun p => p.1 == x && p.2.1 == y).map (·.2.2)) = some b := e
  cases q : t.sb.find? fun p => p.1 == x && p.2.1 == y with
  | none => rw [q] at e'; cases e'
  | some p =>
    rw [q] at e'
    have hb : p.2.2 = b := Option.some.inj e'
    have m := List.mem_of_find?_eq_some q
    have c := List.find?_some q
    simp only [Bool.and_eq_true, beq_iff_eq] at c
    have r := of_decide_eq_true (List.all_eq_true.mp (He.ba (He.ba h).2).2 p m)
    rw [← c.1, ← c.2, ← hb]; exact r
/-! ### the Hook -/
def obsX (fa : List He.Fa) (fn : List He.DefD) (t : XT) (K : PySem.W.Frag) : He.AlD := (((fa.all fun f => f.ok K) && fn.all fun d => d.ok K) && xtB t K, fn.map fun d => He.fnW K d.at_)
def SaysX (fa : List He.Fa) (fn : List He.DefD) (t : XT) (K : PySem.W.Frag) : Prop := obsX fa fn t K = He.valD fn
def obsXG (n : Nat) (fa : List He.Fa) (fn : List He.DefD) (t : XT) (g : Addr → Option Obj) : He.AlD := obsX fa fn t (He.frG g (He.asD g n))
def hookX (n : Nat) (fa : List He.Fa) (fn : List He.DefD) (t : XT) : PySem.W.Hook where
  α := He.AlD
  obs := fun s => obsXG n fa fn t s.heap.get?
  val := fun _ => He.valD fn
  says := fun _ h => ∃ K : PySem.W.Frag, K.In h ∧ SaysX fa fn t K
  of := fun _ _ e => ⟨_, He.frG_in, e⟩
  keeps := fun _ _ _ ⟨K, i, c⟩ k => ⟨K, PySem.W.Frag.In.keeps i k, c⟩
theorem obsXG_eq {n : Nat} {fa : List He.Fa} {fn : List He.DefD} {t : XT} {g : Addr → Option Obj} {s : Shared} (h : ∀ a, g a = s.heap.get? a) : obsXG n fa fn t g = (hookX n fa fn t).obs s := by
  rw [funext h (g := s.heap.get?)]; rfl
section
variable {fa : List He.Fa} {fn : List He.DefD} {t : XT} {K : PySem.W.Frag}
theorem SaysX.xt (c : SaysX fa fn t K) : xtB t K = true := (He.ba (congrArg (fun z : He.AlD => z.1) c)).2
theorem SaysX.says (c : SaysX fa fn t K) : He.SaysD fa fn K := by
  have c' : obsX fa fn t K = He.valD fn := c
  have h2 := congrArg (fun z : He.AlD => z.2) c'
  have h1 := (He.ba (congrArg (fun z : He.AlD => z.1) c')).1
  exact Prod.ext h1 h2
end
/-! ### an own error's __init__ -/
section
variable {P : Program} {w : World} {K : PySem.W.Frag} {mg : Str → Option Value} {base : Heap} {x qual : Str} {params : Arguments} {body : List Stmt} {scope : Scope} {fd : FuncData}
theorem excZ_of {ns ps N : List Str} {k : Nat} {wb : TS} (gl : mg x = some (.ref (He.ga K x))) (ob : oexB K x = true) (F : FunD K "__init__" qual params body scope [] [] (He.ma K (He.ga K x) "__init__") fd) (Sc : FnScope N ps scope) (lp : ps.length = ns.length + 1)
    (hbi : ∀ (kV doc pm : Value) (an : Option Addr) (cdv ct : Value) (us : List Value), us.length = ps.length → bindArgs (PySem.W.fnOf "__init__" qual params body scope .none kV doc pm an cdv ct) ⟨us, []⟩ = pure (ps.zip us))
    (hb : ∀ (f : Addr) (cdv : Value) (A : Around) (outer : List PySem.Env) (s : Shared) (H : Hp) (E : XK), PSs (cxOf (L2.CX P w) P w K mg base N qual scope f cdv A outer s H E) body wb)
    (hw : ∀ vs H Q (E : XK), spInit K (He.ga K x) ns vs H Q E → wb { nx := fun _ H' => Q .non H', rt := Q } (L2.start N vs) H) : ExcZ P w K mg base (k + 1) x ns := by
  obtain ⟨o, fi, ti⟩ := oexB_ok ob
  refine ⟨o, gl, _, fd, ps, fi, ti, F.ok Sc (fun vs H Q E h => ?_) (fun cdv A outer s H vs Q E hr h => ⟨wb, hb _ cdv A outer s H E, hw vs H Q E h⟩), F.bindsN hbi⟩
  obtain ⟨a, ys, rfl, hl, _⟩ := h
  rw [List.length_cons, hl, lp]
end
/-! ### the law's end -/
theorem walk_X {l : PySem.W.OpenLaw} {m k : Nat} {q : Program} {loose : List Str} {XP : (Str → Option Value) → Heap → Prop} {YP : World → Heap → Prop} {d : DefRec} {x : Str} (hm : l.most = some m) (hm2 : m ≤ sizeLine) (hdf : d.params.defaults = []) (hr : Room k callerA)
    (F : ∀ (w : World) (mg : Str → Option Value) (fa : Addr) (h : Heap), YP w h → h.Ns mainGlobals mg → mg d.name = some (.ref fa) → ∃ (K : PySem.W.Frag) (fd : FuncData) (sp : Sp), K.In h ∧ (∀ (s : Shared) (u : Value), BindsTo s fd ⟨[u], []⟩ [(x, u)]) ∧
      (∀ (H : Hp) (a : Addr) (ns : List Int), ns.length ≤ m → Only H → SqL K H a (ns.map V.int) → sp [.ref a] H (fun v _ => v = .bl true) fun _ _ _ => False) ∧ ∀ base : Heap, K.In base → base.Ns mainGlobals mg → FnOk l.prog w K mg base (L2.CX l.prog w) k fa fd [x] sp) :
    PySem.W.WalkO q loose XP YP l.row.toRowW d [] (fun f vs => PySem.call f vs) :=
  Att.attach_call hm hdf fun w s0 s1 mg mb fa o pm cd doc a vs ns G Y ho hd hcd hmg hobj hints hlen hg =>
    match F w mg fa _ Y G.T.g hmg with
    | ⟨K, fd, sp, KX, hb, hsp, hF⟩ => law_call (CX := L2.CX l.prog w) KX G.T.g G.T.b G.T.builtins G.T.nolimit hg hobj hints (Nat.le_trans hlen hm2) hr hF hb (fun H hO hS => hsp H a ns hlen hO hS) fun H e s' hx => by
      obtain ⟨_, _, _, _, _, _, _, _, _, _, _, _, f⟩ := hx
      exact f
/-- the law's promise at the script -/
theorem law_sp {K : PySem.W.Frag} {H : Hp} {a : Addr} {ns : List Int} {sp : DSpec} (hO : Only H) (hS : SqL K H a (ns.map V.int)) (h : sp [.scr (ns.map D.int)] (fun _ d _ => d = .bl true) fun _ _ => False) :
    toSp ⟨K, none⟩ [0] sp [.ref a] H (fun v _ => v = .bl true) fun _ _ _ => False := by
  have at_ : ScrAt K H (fun b => False ∨ b ∈ ([] : List Addr)) a (ns.map V.int) := by
    rcases hS with (e | ⟨o, e⟩) | e
    · rcases hO a with z | ⟨o, xs, z⟩
      · rw [e] at z; cases z
      · rw [e] at z; cases z
    · exact Or.inl ⟨fun z => z.elim id fun y => (nomatch y), o, e⟩
    · exact Or.inr e
  have sh : Sh ⟨K, none⟩ H (fun b => False ∨ b ∈ ([] : List Addr)) (.scr (ns.map D.int)) (.ref a) := ⟨a, _, rfl, at_, shl_ints.mpr rfl⟩
  refine ⟨fun _ => False, [], [.scr (ns.map D.int)], _, _, rfl, rfl, ⟨⟨.ref a, [], [], [], rfl, rfl, ow_zero.mpr ⟨rfl, sh⟩, rfl, rfl⟩, List.nodup_nil, fun _ z => (nomatch z), fun _ z => z.elim⟩, h, fun n d outs v H2 F2 hr ho s t => ?_, fun _ _ _ _ _ _ z => z.elim⟩
  subst hr
  obtain ⟨F3, F4, _, _, e⟩ := s.env.app (by rw [List.length_map]; show 1 = (argE [0] outs).length; rw [argE_len ho]; rfl)
  obtain ⟨v', r, G1, G2, ev, _, ow, _⟩ := e
  injection ev with ev _
  cases ev
  cases n with
  | zero => exact (ow_zero.mp ow).2
  | succ n => exact ow.2
end Z

set_option Elab.async false
set_option linter.all false
set_option maxRecDepth 100000
set_option maxHeartbeats 4000000
/-! Dp18: reading the walks: loops by what stays, comprehensions by what they give; ints as data. -/
namespace Z
open PySem L2
theorem forL_inv {t : Tgt} {b : WS} {T : DEnds} (I : List D → Env → Prop) {items : List D} {ρ : Env} (h0 : I items ρ) (hn : ∀ ρ, I [] ρ → T.nx ρ)
    (hc : ∀ x xs ρ (K : Env → Prop), I (x :: xs) ρ → (∀ ρ', I xs ρ' → K ρ') → t.asg 0 x ρ fun ρ1 => b { T with nx := K, ct := K, bk := T.nx } ρ1) : forL t b T items ρ := by
  induction items generalizing ρ with
  | nil => exact hn ρ h0
  | cons x xs ih => exact hc x xs ρ _ h0 fun ρ' h => ih h
theorem lcL_inv {t : Tgt} {vs : List Nat} {wt : WT} {we : WO} {k : List D → Env → Prop} (J : List D → List D → Env → Prop) {items acc : List D} {ρ : Env} (h0 : J items acc ρ) (hn : ∀ acc ρ, J [] acc ρ → k acc ρ)
    (hc : ∀ x xs acc ρ (K : List D → Env → Prop), J (x :: xs) acc ρ → (∀ acc' ρ', J xs acc' ρ' → K acc' ρ') → t.asg 0 x ρ fun ρ1 => wt ρ1 (fun c ρ2 => if c = true then we ρ2 (fun o ρ3 => toVal ρ3 o fun _ d ρ4 => acc.length < big ∧ K (acc ++ [d]) (wipeE ρ4 vs)) EF else K acc (wipeE ρ2 vs)) EF) :
    lcL t vs wt we k items acc ρ := by
  induction items generalizing ρ acc with
  | nil => exact hn acc ρ h0
  | cons x xs ih => exact hc x xs acc ρ (fun a r => lcL t vs wt we k xs a r) h0 fun a r h => ih h
theorem lcL_fm {t : Tgt} {vs : List Nat} {wt : WT} {we : WO} {k : List D → Env → Prop} (f : D → Option D) (P : D → Prop) {items acc : List D} {ρ : Env}
    (step : ∀ x acc (K : List D → Env → Prop), P x → acc.length < big → (match f x with | some d => K (acc ++ [d]) ρ | none => K acc ρ) → t.asg 0 x ρ fun ρ1 => wt ρ1 (fun c ρ2 => if c = true then we ρ2 (fun o ρ3 => toVal ρ3 o fun _ d ρ4 => acc.length < big ∧ K (acc ++ [d]) (wipeE ρ4 vs)) EF else K acc (wipeE ρ2 vs)) EF)
    (hP : ∀ x ∈ items, P x) (hl : acc.length + items.length ≤ big) (hk : k (acc ++ items.filterMap f) ρ) : lcL t vs wt we k items acc ρ := by
  induction items generalizing acc with
  | nil =>
    show k acc ρ
    simpa using hk
  | cons x xs ih =>
    rw [List.length_cons] at hl
    refine step x acc (fun a r => lcL t vs wt we k xs a r) (hP x List.mem_cons_self) (by omega) ?_
    cases e : f x with
    | some d => exact ih (fun y hy => hP y (List.mem_cons_of_mem _ hy)) (by rw [List.length_append, List.length_singleton]; omega) (by simpa [List.filterMap_cons, e] using hk)
    | none => exact ih (fun y hy => hP y (List.mem_cons_of_mem _ hy)) (by omega) (by simpa [List.filterMap_cons, e] using hk)
theorem lcL_map {t : Tgt} {vs : List Nat} {wt : WT} {we : WO} {k : List D → Env → Prop} (f : D → D) (P : D → Prop) {items acc : List D} {ρ : Env}
    (step : ∀ x acc (K : List D → Env → Prop), P x → acc.length < big → K (acc ++ [f x]) ρ → t.asg 0 x ρ fun ρ1 => wt ρ1 (fun c ρ2 => if c = true then we ρ2 (fun o ρ3 => toVal ρ3 o fun _ d ρ4 => acc.length < big ∧ K (acc ++ [d]) (wipeE ρ4 vs)) EF else K acc (wipeE ρ2 vs)) EF)
    (hP : ∀ x ∈ items, P x) (hl : acc.length + items.length ≤ big) (hk : k (acc ++ items.map f) ρ) : lcL t vs wt we k items acc ρ := by
  refine lcL_fm (fun x => some (f x)) P (fun x acc K hx hz h => step x acc K hx hz h) hP hl ?_
  have e : items.filterMap (fun x => some (f x)) = items.map f := by
    induction items with
    | nil => rfl
    | cons x xs ih => simp
  rw [e]; exact hk
/-- ints as data -/
abbrev li (xs : List Int) : D := .lst (xs.map .int)
abbrev ti (xs : List Int) : D := .tup (xs.map .int)
theorem cut_map {α β : Type} (f : α → β) (xs : List α) (lo hi : Option Int) : cut (xs.map f) lo hi = (cut xs lo hi).map f := by
  unfold cut; rw [List.length_map, List.map_take, List.map_drop]
theorem sIx_p (n d : Nat) {v : Int} (h : 0 ≤ v) : HT.sIx n d (some v) = min v.toNat n := if_neg (by omega)
theorem sIx_m (n d : Nat) {v : Int} (h : v < 0) : HT.sIx n d (some v) = (v + (n : Int)).toNat := if_pos h
theorem sIx_o (n d : Nat) : HT.sIx n d none = d := rfl
theorem cut_to {α : Type} (xs : List α) {j : Int} (h : 0 ≤ j) : cut xs none (some j) = xs.take j.toNat := by
  unfold cut
  rw [sIx_o, sIx_p _ _ h, List.drop_zero, Nat.sub_zero, ← List.take_take, List.take_length]
theorem cut_from {α : Type} (xs : List α) {i : Int} (h : 0 ≤ i) : cut xs (some i) none = xs.drop i.toNat := by
  unfold cut
  rw [sIx_o, sIx_p _ _ h, List.take_of_length_le (by rw [List.length_drop]; exact Nat.le_refl _)]
  by_cases e : i.toNat ≤ xs.length
  · rw [Nat.min_eq_left e]
  · rw [Nat.min_eq_right (by omega), List.drop_length, List.drop_eq_nil_of_le (by omega)]
/-- the last k: xs[-k:] -/
theorem cut_last {α : Type} (xs : List α) {i : Int} (h : i < 0) : cut xs (some i) none = xs.drop (xs.length - (-i).toNat) := by
  unfold cut
  rw [sIx_o, sIx_m _ _ h, List.take_of_length_le (by rw [List.length_drop]; exact Nat.le_refl _)]
  congr 1; omega
/-- xs[:-k] -/
theorem cut_but {α : Type} (xs : List α) {i : Int} (h : i < 0) : cut xs none (some i) = xs.take (xs.length - (-i).toNat) := by
  unfold cut
  rw [sIx_o, sIx_m _ _ h, List.drop_zero, Nat.sub_zero]
  congr 1; omega
theorem cut_two {α : Type} (xs : List α) {i j : Int} (h : 0 ≤ i) (h2 : 0 ≤ j) : cut xs (some i) (some j) = (xs.take j.toNat).drop i.toNat := by
  unfold cut
  rw [sIx_p _ _ h, sIx_p _ _ h2]
  apply List.ext_getElem?
  intro n
  simp only [List.getElem?_take, List.getElem?_drop]
  by_cases e : i.toNat ≤ xs.length
  · rw [Nat.min_eq_left e]
    by_cases e2 : n < min j.toNat xs.length - i.toNat
    · rw [if_pos e2, if_pos (by omega)]
    · rw [if_neg e2]
      by_cases e3 : i.toNat + n < j.toNat
      · rw [if_pos e3, List.getElem?_eq_none (by omega)]
      · rw [if_neg e3]
  · rw [Nat.min_eq_right (a := i.toNat) (by omega)]
    rw [if_neg (by omega)]
    by_cases e3 : i.toNat + n < j.toNat
    · rw [if_pos e3, List.getElem?_eq_none (by omega)]
    · rw [if_neg e3]
theorem atI_map {α β : Type} (f : α → β) (xs : List α) (i : Int) : atI (xs.map f) i = (atI xs i).map f := by
  unfold atI
  rw [List.length_map]
  cases ixN xs.length i with
  | none => rfl
  | some j => exact List.getElem?_map ..
theorem atI_nat {α : Type} (xs : List α) {i : Int} (h : 0 ≤ i) (h2 : i < xs.length) : atI xs i = some (xs[i.toNat]'(by omega)) := by
  unfold atI ixN
  rw [if_pos h, if_pos h2]
  exact List.getElem?_eq_getElem _
theorem atI_last {α : Type} (xs : List α) (h : xs ≠ []) : atI xs (-1) = some (xs.getLast h) := by
  have hl : 0 < xs.length := List.length_pos_iff.mpr h
  unfold atI ixN
  rw [if_neg (by omega), if_pos (by omega)]
  show xs[(-1 + (xs.length : Int)).toNat]? = _
  rw [List.getLast_eq_getElem, ← List.getElem?_eq_getElem]
  congr 1; omega
mutual
theorem eqB_refl : ∀ (n : Nat) (d : D), pdB n d = true → eqB d d = true
  | _, .non, _ => rfl
  | _, .bl b, _ => by cases b <;> rfl
  | _, .int i, _ => by show (i == i) = true; exact beq_self_eq_true i
  | _, .str x, _ => by show (x == x) = true; exact beq_self_eq_true x
  | 0, .tup _, h => by cases h
  | 0, .lst _, h => by cases h
  | n + 1, .tup ds, h => eqL_refl n ds h
  | n + 1, .lst ds, h => eqL_refl n ds h
  | 0, .ty _, h => by cases h
  | 0, .cls _, h => by cases h
  | 0, .scr _, h => by cases h
  | 0, .ins _ _ _, h => by cases h
  | 0, .xr _ _ _, h => by cases h
  | _ + 1, .ty _, h => by cases h
  | _ + 1, .cls _, h => by cases h
  | _ + 1, .scr _, h => by cases h
  | _ + 1, .ins _ _ _, h => by cases h
  | _ + 1, .xr _ _ _, h => by cases h
theorem eqL_refl : ∀ (n : Nat) (ds : List D), pdL n ds = true → PyData.eqvAll (toPL ds) (toPL ds) = true
  | _, [], _ => rfl
  | n, d :: ds, h => by
    have h' : (pdB n d && pdL n ds) = true := by cases n <;> exact h
    obtain ⟨h1, h2⟩ := Bool.and_eq_true_iff.mp h'
    have e1 : PyData.eqv (toP d) (toP d) = true := eqB_refl n d h1
    show (PyData.eqv (toP d) (toP d) && PyData.eqvAll (toPL ds) (toPL ds)) = true
    rw [e1, eqL_refl n ds h2]; rfl
end
theorem pdL_ints (n : Nat) : ∀ xs : List Int, pdL n (xs.map .int) = true
  | [] => by cases n <;> rfl
  | x :: xs => by
    have h := pdL_ints n xs
    cases n <;> (show (true && _) = true; rw [Bool.true_and]; exact h)
theorem pd_li (xs : List Int) : pdB 60 (li xs) = true := pdL_ints 59 xs
theorem pd_ti (xs : List Int) : pdB 60 (ti xs) = true := pdL_ints 59 xs
theorem pd_int (i : Int) : pdB 60 (.int i) = true := rfl
theorem eqB_int (i j : Int) : eqB (.int i) (.int j) = decide (i = j) := by
  show (i == j) = _
  exact (Bool.beq_eq_decide_eq i j)
theorem eqAll_ints : ∀ xs ys : List Int, PyData.eqvAll (toPL (xs.map .int)) (toPL (ys.map .int)) = decide (xs = ys)
  | [], [] => rfl
  | [], _ :: _ => rfl
  | _ :: _, [] => rfl
  | x :: xs, y :: ys => by
    show ((x == y) && PyData.eqvAll (toPL (xs.map .int)) (toPL (ys.map .int))) = _
    rw [eqAll_ints xs ys, Bool.beq_eq_decide_eq]
    by_cases e : x = y <;> by_cases e2 : xs = ys <;> simp [e, e2]
theorem eqB_li (xs ys : List Int) : eqB (li xs) (li ys) = decide (xs = ys) := eqAll_ints xs ys
theorem eqB_ti (xs ys : List Int) : eqB (ti xs) (ti ys) = decide (xs = ys) := eqAll_ints xs ys
theorem eqB_str (x y : Str) : eqB (.str x) (.str y) = decide (x = y) := by
  show (x == y) = _
  exact (Bool.beq_eq_decide_eq x y)
theorem enumL_mem {xs : List Int} {x : D} (h : x ∈ enumL (xs.map .int)) : ∃ i n : Int, x = .tup [.int i, .int n] ∧ n ∈ xs := by
  unfold enumL at h
  obtain ⟨p, hp, rfl⟩ := List.mem_map.mp h
  obtain ⟨hi, e⟩ := List.mem_zipIdx' hp
  have m : p.1 ∈ xs.map D.int := by rw [e]; exact List.getElem_mem _
  obtain ⟨n, hn, en⟩ := List.mem_map.mp m
  exact ⟨_, n, by rw [← en], hn⟩
theorem small_n {i : Int} (h : -1000000 ≤ i) (h2 : i ≤ 1000000) : smallI i := by
  unfold smallI
  have e : (2 : Int) ^ 62 = 4611686018427387904 := by decide
  rw [e]; omega
theorem small_nat {n : Nat} (h : n ≤ 1000000) : smallI (n : Int) := small_n (by omega) (by omega)
theorem rngL0 {n : Nat} {i : Int} (h : i = n) : rngL 0 i.toNat = (List.range n).map fun b => D.int ((b : Nat) : Int) := by
  subst h
  unfold rngL
  simp
theorem itT {c : Bool} {A B : Prop} (h : c = true) (a : A) : if c = true then A else B := by rw [if_pos h]; exact a
theorem itF {c : Bool} {A B : Prop} (h : c = false) (b : B) : if c = true then A else B := by rw [h]; exact b
end Z

set_option Elab.async false
set_option linter.all false
set_option maxRecDepth 100000
set_option maxHeartbeats 4000000
/-! Dp19: the readings as a machine: rewriting rules with named continuations (printed by mkz.py). -/
namespace Z
open PySem PySem.Spec PyProof.Rows L2
def bIf (c : Bool) (A B : Prop) : Prop := if c = true then A else B
def kT (Q : Opd → Env → Prop) (ρ : Env) : Nat → D → Prop := fun n d => Q (.tm n d) ρ
def kT0 (Q : Opd → Env → Prop) (ρ : Env) : D → Prop := fun d => Q (.tm 0 d) ρ
def kR (r : RE) (Q : Opd → Env → Prop) : List D → Env → Prop := fun ds ρ => r ds (kT Q ρ)
def kE (r : RE) (Q : Opd → Env → Prop) : List Opd → Env → Prop := fun os ρ => opnds ρ os (kR r Q)
def kV (r : RV) (Q : Opd → Env → Prop) (ρ : Env) : List D → Prop := fun ds => r ds (kT0 Q ρ)
def kS (r : RV) (Q : Opd → Env → Prop) : List Opd → Env → Prop := fun os ρ => opnvs ρ os (kV r Q ρ)
def kO2 (d : D) (k : List D → Env → Prop) : List D → Env → Prop := fun ds ρ => k (d :: ds) ρ
def kO1 (os : List Opd) (k : List D → Env → Prop) : D → Env → Prop := fun d ρ => opnds ρ os (kO2 d k)
def opS (s : Option Slot) (i : Nat) (ρ : Env) (k : D → Env → Prop) : Prop := match s with
  | some (some (n, d)) => k d (if n ≤ 1 then ρ else ρ.set i (some (1, d)))
  | _ => False
def kW2 (d : D) (k : List D → Prop) : List D → Prop := fun ds => k (d :: ds)
def kW1 (ρ : Env) (os : List Opd) (k : List D → Prop) : D → Prop := fun d => opnvs ρ os (kW2 d k)
def onSl (s : Option Slot) (k : D → Prop) : Prop := match s with
  | some (some (_, d)) => k d
  | _ => False
def tvS (s : Option Slot) (i : Nat) (ρ : Env) (k : Nat → D → Env → Prop) : Prop := match s with
  | some (some (n, d)) => k 0 d (ρ.set i (some (0, d)))
  | _ => False
def kU2 (n : Nat) (d : D) (k : List (Nat × D) → Env → Prop) : List (Nat × D) → Env → Prop := fun ds ρ => k ((n, d) :: ds) ρ
def kU1 (os : List Opd) (k : List (Nat × D) → Env → Prop) : Nat → D → Env → Prop := fun n d ρ => toVals ρ os (kU2 n d k)
def wvS (s : Option Slot) (i : Nat) (ρ : Env) (Q : Opd → Env → Prop) : Prop := match s with
  | some (some _) => Q (.rf i) ρ
  | _ => False
def kC2 (o : Opd) (Q : List Opd → Env → Prop) : List Opd → Env → Prop := fun os ρ => Q (o :: os) ρ
def kC1 (wr : WOs) (Q : List Opd → Env → Prop) (E : ED) : Opd → Env → Prop := fun o ρ => wr ρ (kC2 o Q) E
def kTup (n : Nat) (Q : Opd → Env → Prop) : List (Nat × D) → Env → Prop := fun ds ρ => n ≤ 1000 ∧ Q (.tm 0 (.tup (ds.map (·.2)))) ρ
def kTp (Q : Opd → Env → Prop) : List Opd → Env → Prop := fun os ρ => toVals ρ os (kTup os.length Q)
def kLst (n : Nat) (Q : Opd → Env → Prop) : List (Nat × D) → Env → Prop := fun ds ρ => n ≤ 1000 ∧ Q (.tm 1 (.lst (ds.map (·.2)))) ρ
def kLs (Q : Opd → Env → Prop) : List Opd → Env → Prop := fun os ρ => toVals ρ os (kLst os.length Q)
def trS (o : Option Bool) (Q : Bool → Env → Prop) (ρ : Env) : Prop := match o with
  | some b => Q b ρ
  | none => False
def kTr2 (Q : Bool → Env → Prop) (ρ : Env) : D → Prop := fun d => trS (truD d) Q ρ
def kTr (Q : Bool → Env → Prop) : Opd → Env → Prop := fun o ρ => opnv ρ o (kTr2 Q ρ)
def kB (Q : Bool → Env → Prop) : Opd → Env → Prop := fun o ρ => match o with
  | .tm _ (.bl b) => Q b ρ
  | _ => False
def kAT (v : WT) (Q : Bool → Env → Prop) (E : ED) : Bool → Env → Prop := fun c ρ => bIf c (v ρ Q E) (Q false ρ)
def kOT (v : WT) (Q : Bool → Env → Prop) (E : ED) : Bool → Env → Prop := fun c ρ => bIf c (Q true ρ) (v ρ Q E)
def kNT (Q : Bool → Env → Prop) : Bool → Env → Prop := fun c ρ => Q (!c) ρ
def blK (k : Bool → Prop) : D → Prop := fun d => match d with
  | .bl c => k c
  | _ => False
def kAn2 (wb : WO) (Q : Opd → Env → Prop) (E : ED) (ρ : Env) : Bool → Prop := fun c => bIf c (wb ρ Q E) (Q (.tm 0 (.bl false)) ρ)
def kAn (wb : WO) (Q : Opd → Env → Prop) (E : ED) : Opd → Env → Prop := fun o ρ => opnv ρ o (blK (kAn2 wb Q E ρ))
def kOr2 (wb : WO) (Q : Opd → Env → Prop) (E : ED) (ρ : Env) : Bool → Prop := fun c => bIf c (Q (.tm 0 (.bl true)) ρ) (wb ρ Q E)
def kOr (wb : WO) (Q : Opd → Env → Prop) (E : ED) : Opd → Env → Prop := fun o ρ => opnv ρ o (blK (kOr2 wb Q E ρ))
def kNo2 (Q : Opd → Env → Prop) (ρ : Env) : Bool → Prop := fun c => Q (.tm 0 (.bl (!c))) ρ
def kNo (Q : Opd → Env → Prop) : Opd → Env → Prop := fun o ρ => opnv ρ o (blK (kNo2 Q ρ))
def kIe (wa wb : WO) (Q : Opd → Env → Prop) (E : ED) : Bool → Env → Prop := fun c ρ => bIf c (wa ρ Q E) (wb ρ Q E)
def inK (k : Int → Prop) : D → Prop := fun d => match d with
  | .int i => k i
  | _ => False
def kI2 (k : Int → Env → Prop) (ρ : Env) : Int → Prop := fun i => k i ρ
def kI (k : Int → Env → Prop) : Opd → Env → Prop := fun o ρ => opnv ρ o (inK (kI2 k ρ))
def kN2 (Q : Opd → Env → Prop) (o : Opd) (ρ : Env) : Int → Prop := fun _ => Q o ρ
def kN (Q : Opd → Env → Prop) : Opd → Env → Prop := fun o ρ => opnv ρ o (inK (kN2 Q o ρ))
def kCh3 (q : Int → Int → Bool) (j : Int) (Q : Opd → Env → Prop) : Int → Env → Prop := fun l ρ => Q (.tm 0 (.bl (q j l))) ρ
def kCh2 (p q : Int → Int → Bool) (i : Int) (wc : WO) (Q : Opd → Env → Prop) (E : ED) : Int → Env → Prop := fun j ρ => bIf (p i j) (wI wc (kCh3 q j Q) E ρ) (Q (.tm 0 (.bl false)) ρ)
def kCh2b (q : Int → Int → Bool) (j : Int) (wc : WO) (Q : Opd → Env → Prop) (E : ED) : Bool → Env → Prop := fun c ρ => bIf c (wI wc (kCh3 q j Q) E ρ) (Q (.tm 0 (.bl false)) ρ)
def kCh1 (p q : Int → Int → Bool) (wb wc : WO) (Q : Opd → Env → Prop) (E : ED) : Int → Env → Prop := fun i ρ => wI wb (kCh2 p q i wc Q E) E ρ
def kLR1 (Q : Opd → Env → Prop) : Int → Env → Prop := fun i ρ => rgOk 0 i ∧ Q (.tm 1 (.lst (rgD 0 i))) ρ
def kTR1 (Q : Opd → Env → Prop) : Int → Env → Prop := fun i ρ => rgOk 0 i ∧ Q (.tm 0 (.tup (rgD 0 i))) ρ
def kLR2b (i : Int) (Q : Opd → Env → Prop) : Int → Env → Prop := fun j ρ => rgOk i j ∧ Q (.tm 1 (.lst (rgD i j))) ρ
def kLR2 (wb : WO) (Q : Opd → Env → Prop) (E : ED) : Int → Env → Prop := fun i ρ => wI wb (kLR2b i Q) E ρ
def kTR2b (i : Int) (Q : Opd → Env → Prop) : Int → Env → Prop := fun j ρ => rgOk i j ∧ Q (.tm 0 (.tup (rgD i j))) ρ
def kTR2 (wb : WO) (Q : Opd → Env → Prop) (E : ED) : Int → Env → Prop := fun i ρ => wI wb (kTR2b i Q) E ρ
def atK {α : Type} (o : Option α) (k : α → Prop) : Prop := match o with
  | some d => k d
  | none => False
def blsK (k : D → Prop) (f : List Bool → Bool) : List Bool → Prop := fun l => k (.bl (f l))
def sumK (k : D → Prop) : List Int → Prop := fun l => k (.int l.sum)
def isiK (a : D) (k : D → Prop) : List String → Prop := fun l => (∀ n ∈ l, n ∈ okTys) ∧ k (.bl (l.any (isiB a)))
def seqE (T : DEnds) (v : WS) : DEnds := { T with nx := v T }
def kEx (T : DEnds) : Opd → Env → Prop := fun _ ρ => T.nx ρ
def rtS (s : Option Slot) (i : Nat) (ρ : Env) (k : Nat → D → Env → Prop) : Prop := match s with
  | some (some (0, d)) => k 0 d ρ
  | some (some (n + 1, d)) => k (n + 1) d (ρ.set i none)
  | _ => False
def kRet (T : DEnds) : Opd → Env → Prop := fun o ρ => retV ρ o T.rt
def kIf (u v : WS) (T : DEnds) : Bool → Env → Prop := fun c ρ => bIf c (u T ρ) (v T ρ)
def kAs2 (t : Tgt) (T : DEnds) : Nat → D → Env → Prop := fun n d ρ => t.asg n d ρ T.nx
def kAs (t : Tgt) (T : DEnds) : Opd → Env → Prop := fun o ρ => toVal ρ o (kAs2 t T)
def kOut (d : D) (k : List D → Prop) : List D → Prop := fun l => k (d :: l)
def lpE (T : DEnds) (K : Env → Prop) : DEnds := { T with nx := K, ct := K, bk := T.nx }
def kFor (t : Tgt) (b : WS) (T : DEnds) : List D → Env → Prop := fun items ρ => forL t b T items ρ
def kFl (t : Tgt) (b : WS) (T : DEnds) (xs : List D) : Env → Prop := fun ρ => b (lpE T (forL t b T xs)) ρ
def kIL2 (Q : List D → Env → Prop) : Nat → D → Env → Prop := fun _ d ρ => match d with
  | .lst ds => Q ds ρ
  | _ => False
def kIL (Q : List D → Env → Prop) : Opd → Env → Prop := fun o ρ => toVal ρ o (kIL2 Q)
def kIT2 (Q : List D → Env → Prop) : Nat → D → Env → Prop := fun _ d ρ => match d with
  | .tup ds => Q ds ρ
  | _ => False
def kIT (Q : List D → Env → Prop) : Opd → Env → Prop := fun o ρ => toVal ρ o (kIT2 Q)
def kIEt2 (Q : List D → Env → Prop) : Nat → D → Env → Prop := fun _ d ρ => match d with
  | .tup ds => Q (enumL ds) ρ
  | _ => False
def kIEt (Q : List D → Env → Prop) : Opd → Env → Prop := fun o ρ => toVal ρ o (kIEt2 Q)
def kIEl2 (Q : List D → Env → Prop) : Nat → D → Env → Prop := fun _ d ρ => match d with
  | .lst ds => Q (enumL ds) ρ
  | _ => False
def kIEl (Q : List D → Env → Prop) : Opd → Env → Prop := fun o ρ => toVal ρ o (kIEl2 Q)
def kIR12 (Q : List D → Env → Prop) (ρ : Env) : List D → Prop := fun ds => match ds with
  | [.int j] => smallI j ∧ Q (rngL 0 j.toNat) ρ
  | _ => False
def kIR1 (Q : List D → Env → Prop) : List Opd → Env → Prop := fun os ρ => opnvs ρ os (kIR12 Q ρ)
def kIR22 (Q : List D → Env → Prop) (ρ : Env) : List D → Prop := fun ds => match ds with
  | [.int i, .int j] => smallI i ∧ smallI j ∧ Q (rngL i (j - i).toNat) ρ
  | _ => False
def kIR2 (Q : List D → Env → Prop) : List Opd → Env → Prop := fun os ρ => opnvs ρ os (kIR22 Q ρ)
def kWh (b : WS) (T : DEnds) (K : Env → Prop) : Bool → Env → Prop := fun c ρ => bIf c (b (lpE T K) ρ) (T.nx ρ)
def kLcE (Q : Opd → Env → Prop) : List D → Env → Prop := fun acc ρ => Q (.tm 1 (.lst acc)) ρ
def kLc (t : Tgt) (vs : List Nat) (wt : WT) (we : WO) (Q : Opd → Env → Prop) : List D → Env → Prop := fun items ρ => lcL t vs wt we (kLcE Q) items [] (wipeE ρ vs)
def kLl4 (acc : List D) (vs : List Nat) (K : List D → Env → Prop) : Nat → D → Env → Prop := fun _ d ρ => acc.length < 1000000 ∧ K (acc ++ [d]) (wipeE ρ vs)
def kLl3 (acc : List D) (vs : List Nat) (K : List D → Env → Prop) : Opd → Env → Prop := fun o ρ => toVal ρ o (kLl4 acc vs K)
def kLl2 (acc : List D) (vs : List Nat) (we : WO) (K : List D → Env → Prop) : Bool → Env → Prop := fun c ρ => bIf c (we ρ (kLl3 acc vs K) EF) (K acc (wipeE ρ vs))
def kLl (acc : List D) (vs : List Nat) (wt : WT) (we : WO) (K : List D → Env → Prop) : Env → Prop := fun ρ => wt ρ (kLl2 acc vs we K) EF
def kRt (Q : Opd → Env → Prop) (ρ : Env) (ms : List Nat) (os : List Opd) : Nat → D → List D → Prop := fun n d outs => Q (.tm n d) (outsE ρ ms os outs)
def kXt (E : ED) (ρ : Env) (ms : List Nat) (os : List Opd) : Exn → List D → Prop := fun x outs => E x (outsE ρ ms os outs)
def kCa (ms : List Nat) (sp : DSpec) (Q : Opd → Env → Prop) (E : ED) (os : List Opd) : List D → Env → Prop := fun ds ρ => sp ds (kRt Q ρ ms os) (kXt E ρ ms os)
def kCl (ms : List Nat) (sp : DSpec) (Q : Opd → Env → Prop) (E : ED) : List Opd → Env → Prop := fun os ρ => cargs ρ ms os (kCa ms sp Q E os)
def caS (s : Option Slot) (i : Nat) (ρ : Env) (ms : List Nat) (os : List Opd) (k : List D → Env → Prop) : Prop := match s with
  | some (some (_, d)) => cargs (ρ.set i (some (0, d))) ms os (kO2 d k)
  | _ => False
def caM (s : Option Slot) (m i : Nat) (ρ : Env) (ms : List Nat) (os : List Opd) (k : List D → Env → Prop) : Prop := match s with
  | some (some (n, d)) => m + 1 ≤ n ∧ cargs (ρ.set i none) ms os (kO2 d k)
  | _ => False
def kMtE (Q : Opd → Env → Prop) (i : Nat) (ρ : Env) : List D → D → Prop := fun ds d => Q (.tm 0 d) (ρ.set i (some (1, .lst ds)))
def mtS (s : Option Slot) (i : Nat) (ρ : Env) (f : Mth) (as : List D) (Q : Opd → Env → Prop) : Prop := match s with
  | some (some (_ + 1, .lst ds)) => f ds as (kMtE Q i ρ)
  | _ => False
def kMt2 (i : Nat) (f : Mth) (Q : Opd → Env → Prop) : List (Nat × D) → Env → Prop := fun ps ρ => mtS ρ[i]? i ρ f (ps.map (·.2)) Q
def kMt (i : Nat) (f : Mth) (Q : Opd → Env → Prop) : List Opd → Env → Prop := fun os ρ => toVals ρ os (kMt2 i f Q)
def ilS (s : Option Slot) (p : Prop) : Prop := match s with
  | some (some (_, .lst _)) => p
  | _ => False
def popK (k : List D → D → Prop) (xs : List D) : D → Prop := fun d => k xs.dropLast d
def kSt4 (i : Nat) (ρ : Env) (T : DEnds) : List D → Prop := fun ds => T.nx (ρ.set i (some (1, .lst ds)))
def stS (s : Option Slot) (i : Nat) (ρ : Env) (j : Int) (d : D) (T : DEnds) : Prop := match s with
  | some (some (_ + 1, .lst ds)) => atK (setI ds j d) (kSt4 i ρ T)
  | _ => False
def kSt3 (i : Nat) (d : D) (T : DEnds) : Int → Env → Prop := fun j ρ => stS ρ[i]? i ρ j d T
def kSt2 (i : Nat) (wx : WO) (T : DEnds) : Nat → D → Env → Prop := fun _ d ρ => isLst ρ i (wI wx (kSt3 i d T) T.ex ρ)
def kSt (i : Nat) (wx : WO) (T : DEnds) : Opd → Env → Prop := fun o ρ => toVal ρ o (kSt2 i wx T)
def kRs (x : Str) (ns : List Str) (T : DEnds) : List (Nat × D) → Env → Prop := fun ps ρ => ps.length = ns.length ∧ ns.length ≤ 100 ∧ T.ex (x, ns.reverse, (ps.map (·.2)).reverse) ρ
def kRa (x : Str) (ns : List Str) (T : DEnds) : List Opd → Env → Prop := fun os ρ => toVals ρ os (kRs x ns T)
def tryE (sub : Str → Str → Option Bool) (T : DEnds) (cl : List DCl) : DEnds := { T with ex := fun x ρ => hnd sub T x ρ cl }
def hnS (o : Option Bool) (sub : Str → Str → Option Bool) (T : DEnds) (x : Exn) (ρ : Env) (y : Str) (v : Option Nat) (ws : WS) (r : List DCl) : Prop := match o with
  | some true => x.1 = y ∧ ws (goneD v ρ T) (onE v x ρ)
  | some false => hnd sub T x ρ r
  | none => False
def xfS (s : Option Slot) (f : Str) (ρ : Env) (Q : Opd → Env → Prop) : Prop := match s with
  | some (some (_, .xr _ ns ds)) => atK ((ns.zip ds).lookup f) (kT0 Q ρ)
  | _ => False
theorem bIf_congr {c c' : Bool} {A B : Prop} (h : c = c') : bIf c A B = bIf c' A B := by rw [h]
theorem bIf_cases {c : Bool} {A B : Prop} (h1 : c = true → A) (h2 : c = false → B) : bIf c A B := by
  cases c with
  | true => exact h1 rfl
  | false => exact h2 rfl
theorem bIf_T {c : Bool} {A B : Prop} (h : c = true) (a : A) : bIf c A B := by rw [h]; exact a
theorem bIf_F {c : Bool} {A B : Prop} (h : c = false) (b : B) : bIf c A B := by rw [h]; exact b
theorem ex_atK {α : Type} {o : Option α} {k : α → Prop} : (∃ d, o = some d ∧ k d) = atK o k := propext (by
  cases o with
  | none => exact ⟨fun h => (nomatch h.choose_spec.1), fun h => h.elim⟩
  | some d => exact ⟨fun ⟨_, e, h⟩ => by cases e; exact h, fun h => ⟨d, rfl, h⟩⟩)
theorem gt0 {a0 : Slot} {r : Env} : (a0 :: r)[0]? = some a0 := by exact id rfl
theorem st0 {a0 x : Slot} {r : Env} : (a0 :: r).set 0 x = x :: r := by exact id rfl
theorem gt1 {a0 a1 : Slot} {r : Env} : (a0 :: a1 :: r)[1]? = some a1 := by exact id rfl
theorem st1 {a0 a1 x : Slot} {r : Env} : (a0 :: a1 :: r).set 1 x = a0 :: x :: r := by exact id rfl
theorem gt2 {a0 a1 a2 : Slot} {r : Env} : (a0 :: a1 :: a2 :: r)[2]? = some a2 := by exact id rfl
theorem st2 {a0 a1 a2 x : Slot} {r : Env} : (a0 :: a1 :: a2 :: r).set 2 x = a0 :: a1 :: x :: r := by exact id rfl
theorem gt3 {a0 a1 a2 a3 : Slot} {r : Env} : (a0 :: a1 :: a2 :: a3 :: r)[3]? = some a3 := by exact id rfl
theorem st3 {a0 a1 a2 a3 x : Slot} {r : Env} : (a0 :: a1 :: a2 :: a3 :: r).set 3 x = a0 :: a1 :: a2 :: x :: r := by exact id rfl
theorem gt4 {a0 a1 a2 a3 a4 : Slot} {r : Env} : (a0 :: a1 :: a2 :: a3 :: a4 :: r)[4]? = some a4 := by exact id rfl
theorem st4 {a0 a1 a2 a3 a4 x : Slot} {r : Env} : (a0 :: a1 :: a2 :: a3 :: a4 :: r).set 4 x = a0 :: a1 :: a2 :: a3 :: x :: r := by exact id rfl
theorem gt5 {a0 a1 a2 a3 a4 a5 : Slot} {r : Env} : (a0 :: a1 :: a2 :: a3 :: a4 :: a5 :: r)[5]? = some a5 := by exact id rfl
theorem st5 {a0 a1 a2 a3 a4 a5 x : Slot} {r : Env} : (a0 :: a1 :: a2 :: a3 :: a4 :: a5 :: r).set 5 x = a0 :: a1 :: a2 :: a3 :: a4 :: x :: r := by exact id rfl
theorem gt6 {a0 a1 a2 a3 a4 a5 a6 : Slot} {r : Env} : (a0 :: a1 :: a2 :: a3 :: a4 :: a5 :: a6 :: r)[6]? = some a6 := by exact id rfl
theorem st6 {a0 a1 a2 a3 a4 a5 a6 x : Slot} {r : Env} : (a0 :: a1 :: a2 :: a3 :: a4 :: a5 :: a6 :: r).set 6 x = a0 :: a1 :: a2 :: a3 :: a4 :: a5 :: x :: r := by exact id rfl
theorem gt7 {a0 a1 a2 a3 a4 a5 a6 a7 : Slot} {r : Env} : (a0 :: a1 :: a2 :: a3 :: a4 :: a5 :: a6 :: a7 :: r)[7]? = some a7 := by exact id rfl
theorem st7 {a0 a1 a2 a3 a4 a5 a6 a7 x : Slot} {r : Env} : (a0 :: a1 :: a2 :: a3 :: a4 :: a5 :: a6 :: a7 :: r).set 7 x = a0 :: a1 :: a2 :: a3 :: a4 :: a5 :: a6 :: x :: r := by exact id rfl
theorem gt8 {a0 a1 a2 a3 a4 a5 a6 a7 a8 : Slot} {r : Env} : (a0 :: a1 :: a2 :: a3 :: a4 :: a5 :: a6 :: a7 :: a8 :: r)[8]? = some a8 := by exact id rfl
theorem st8 {a0 a1 a2 a3 a4 a5 a6 a7 a8 x : Slot} {r : Env} : (a0 :: a1 :: a2 :: a3 :: a4 :: a5 :: a6 :: a7 :: a8 :: r).set 8 x = a0 :: a1 :: a2 :: a3 :: a4 :: a5 :: a6 :: a7 :: x :: r := by exact id rfl
theorem gt9 {a0 a1 a2 a3 a4 a5 a6 a7 a8 a9 : Slot} {r : Env} : (a0 :: a1 :: a2 :: a3 :: a4 :: a5 :: a6 :: a7 :: a8 :: a9 :: r)[9]? = some a9 := by exact id rfl
theorem st9 {a0 a1 a2 a3 a4 a5 a6 a7 a8 a9 x : Slot} {r : Env} : (a0 :: a1 :: a2 :: a3 :: a4 :: a5 :: a6 :: a7 :: a8 :: a9 :: r).set 9 x = a0 :: a1 :: a2 :: a3 :: a4 :: a5 :: a6 :: a7 :: a8 :: x :: r := by exact id rfl
theorem gt10 {a0 a1 a2 a3 a4 a5 a6 a7 a8 a9 a10 : Slot} {r : Env} : (a0 :: a1 :: a2 :: a3 :: a4 :: a5 :: a6 :: a7 :: a8 :: a9 :: a10 :: r)[10]? = some a10 := by exact id rfl
theorem st10 {a0 a1 a2 a3 a4 a5 a6 a7 a8 a9 a10 x : Slot} {r : Env} : (a0 :: a1 :: a2 :: a3 :: a4 :: a5 :: a6 :: a7 :: a8 :: a9 :: a10 :: r).set 10 x = a0 :: a1 :: a2 :: a3 :: a4 :: a5 :: a6 :: a7 :: a8 :: a9 :: x :: r := by exact id rfl
theorem gt11 {a0 a1 a2 a3 a4 a5 a6 a7 a8 a9 a10 a11 : Slot} {r : Env} : (a0 :: a1 :: a2 :: a3 :: a4 :: a5 :: a6 :: a7 :: a8 :: a9 :: a10 :: a11 :: r)[11]? = some a11 := by exact id rfl
theorem st11 {a0 a1 a2 a3 a4 a5 a6 a7 a8 a9 a10 a11 x : Slot} {r : Env} : (a0 :: a1 :: a2 :: a3 :: a4 :: a5 :: a6 :: a7 :: a8 :: a9 :: a10 :: a11 :: r).set 11 x = a0 :: a1 :: a2 :: a3 :: a4 :: a5 :: a6 :: a7 :: a8 :: a9 :: a10 :: x :: r := by exact id rfl
theorem gt12 {a0 a1 a2 a3 a4 a5 a6 a7 a8 a9 a10 a11 a12 : Slot} {r : Env} : (a0 :: a1 :: a2 :: a3 :: a4 :: a5 :: a6 :: a7 :: a8 :: a9 :: a10 :: a11 :: a12 :: r)[12]? = some a12 := by exact id rfl
theorem st12 {a0 a1 a2 a3 a4 a5 a6 a7 a8 a9 a10 a11 a12 x : Slot} {r : Env} : (a0 :: a1 :: a2 :: a3 :: a4 :: a5 :: a6 :: a7 :: a8 :: a9 :: a10 :: a11 :: a12 :: r).set 12 x = a0 :: a1 :: a2 :: a3 :: a4 :: a5 :: a6 :: a7 :: a8 :: a9 :: a10 :: a11 :: x :: r := by exact id rfl
theorem gt13 {a0 a1 a2 a3 a4 a5 a6 a7 a8 a9 a10 a11 a12 a13 : Slot} {r : Env} : (a0 :: a1 :: a2 :: a3 :: a4 :: a5 :: a6 :: a7 :: a8 :: a9 :: a10 :: a11 :: a12 :: a13 :: r)[13]? = some a13 := by exact id rfl
theorem st13 {a0 a1 a2 a3 a4 a5 a6 a7 a8 a9 a10 a11 a12 a13 x : Slot} {r : Env} : (a0 :: a1 :: a2 :: a3 :: a4 :: a5 :: a6 :: a7 :: a8 :: a9 :: a10 :: a11 :: a12 :: a13 :: r).set 13 x = a0 :: a1 :: a2 :: a3 :: a4 :: a5 :: a6 :: a7 :: a8 :: a9 :: a10 :: a11 :: a12 :: x :: r := by exact id rfl
theorem gt14 {a0 a1 a2 a3 a4 a5 a6 a7 a8 a9 a10 a11 a12 a13 a14 : Slot} {r : Env} : (a0 :: a1 :: a2 :: a3 :: a4 :: a5 :: a6 :: a7 :: a8 :: a9 :: a10 :: a11 :: a12 :: a13 :: a14 :: r)[14]? = some a14 := by exact id rfl
theorem st14 {a0 a1 a2 a3 a4 a5 a6 a7 a8 a9 a10 a11 a12 a13 a14 x : Slot} {r : Env} : (a0 :: a1 :: a2 :: a3 :: a4 :: a5 :: a6 :: a7 :: a8 :: a9 :: a10 :: a11 :: a12 :: a13 :: a14 :: r).set 14 x = a0 :: a1 :: a2 :: a3 :: a4 :: a5 :: a6 :: a7 :: a8 :: a9 :: a10 :: a11 :: a12 :: a13 :: x :: r := by exact id rfl
theorem gt15 {a0 a1 a2 a3 a4 a5 a6 a7 a8 a9 a10 a11 a12 a13 a14 a15 : Slot} {r : Env} : (a0 :: a1 :: a2 :: a3 :: a4 :: a5 :: a6 :: a7 :: a8 :: a9 :: a10 :: a11 :: a12 :: a13 :: a14 :: a15 :: r)[15]? = some a15 := by exact id rfl
theorem st15 {a0 a1 a2 a3 a4 a5 a6 a7 a8 a9 a10 a11 a12 a13 a14 a15 x : Slot} {r : Env} : (a0 :: a1 :: a2 :: a3 :: a4 :: a5 :: a6 :: a7 :: a8 :: a9 :: a10 :: a11 :: a12 :: a13 :: a14 :: a15 :: r).set 15 x = a0 :: a1 :: a2 :: a3 :: a4 :: a5 :: a6 :: a7 :: a8 :: a9 :: a10 :: a11 :: a12 :: a13 :: a14 :: x :: r := by exact id rfl
theorem gt16 {a0 a1 a2 a3 a4 a5 a6 a7 a8 a9 a10 a11 a12 a13 a14 a15 a16 : Slot} {r : Env} : (a0 :: a1 :: a2 :: a3 :: a4 :: a5 :: a6 :: a7 :: a8 :: a9 :: a10 :: a11 :: a12 :: a13 :: a14 :: a15 :: a16 :: r)[16]? = some a16 := by exact id rfl
theorem st16 {a0 a1 a2 a3 a4 a5 a6 a7 a8 a9 a10 a11 a12 a13 a14 a15 a16 x : Slot} {r : Env} : (a0 :: a1 :: a2 :: a3 :: a4 :: a5 :: a6 :: a7 :: a8 :: a9 :: a10 :: a11 :: a12 :: a13 :: a14 :: a15 :: a16 :: r).set 16 x = a0 :: a1 :: a2 :: a3 :: a4 :: a5 :: a6 :: a7 :: a8 :: a9 :: a10 :: a11 :: a12 :: a13 :: a14 :: a15 :: x :: r := by exact id rfl
theorem gt17 {a0 a1 a2 a3 a4 a5 a6 a7 a8 a9 a10 a11 a12 a13 a14 a15 a16 a17 : Slot} {r : Env} : (a0 :: a1 :: a2 :: a3 :: a4 :: a5 :: a6 :: a7 :: a8 :: a9 :: a10 :: a11 :: a12 :: a13 :: a14 :: a15 :: a16 :: a17 :: r)[17]? = some a17 := by exact id rfl
theorem st17 {a0 a1 a2 a3 a4 a5 a6 a7 a8 a9 a10 a11 a12 a13 a14 a15 a16 a17 x : Slot} {r : Env} : (a0 :: a1 :: a2 :: a3 :: a4 :: a5 :: a6 :: a7 :: a8 :: a9 :: a10 :: a11 :: a12 :: a13 :: a14 :: a15 :: a16 :: a17 :: r).set 17 x = a0 :: a1 :: a2 :: a3 :: a4 :: a5 :: a6 :: a7 :: a8 :: a9 :: a10 :: a11 :: a12 :: a13 :: a14 :: a15 :: a16 :: x :: r := by exact id rfl
theorem gt18 {a0 a1 a2 a3 a4 a5 a6 a7 a8 a9 a10 a11 a12 a13 a14 a15 a16 a17 a18 : Slot} {r : Env} : (a0 :: a1 :: a2 :: a3 :: a4 :: a5 :: a6 :: a7 :: a8 :: a9 :: a10 :: a11 :: a12 :: a13 :: a14 :: a15 :: a16 :: a17 :: a18 :: r)[18]? = some a18 := by exact id rfl
theorem st18 {a0 a1 a2 a3 a4 a5 a6 a7 a8 a9 a10 a11 a12 a13 a14 a15 a16 a17 a18 x : Slot} {r : Env} : (a0 :: a1 :: a2 :: a3 :: a4 :: a5 :: a6 :: a7 :: a8 :: a9 :: a10 :: a11 :: a12 :: a13 :: a14 :: a15 :: a16 :: a17 :: a18 :: r).set 18 x = a0 :: a1 :: a2 :: a3 :: a4 :: a5 :: a6 :: a7 :: a8 :: a9 :: a10 :: a11 :: a12 :: a13 :: a14 :: a15 :: a16 :: a17 :: x :: r := by exact id rfl
theorem gt19 {a0 a1 a2 a3 a4 a5 a6 a7 a8 a9 a10 a11 a12 a13 a14 a15 a16 a17 a18 a19 : Slot} {r : Env} : (a0 :: a1 :: a2 :: a3 :: a4 :: a5 :: a6 :: a7 :: a8 :: a9 :: a10 :: a11 :: a12 :: a13 :: a14 :: a15 :: a16 :: a17 :: a18 :: a19 :: r)[19]? = some a19 := by exact id rfl
theorem st19 {a0 a1 a2 a3 a4 a5 a6 a7 a8 a9 a10 a11 a12 a13 a14 a15 a16 a17 a18 a19 x : Slot} {r : Env} : (a0 :: a1 :: a2 :: a3 :: a4 :: a5 :: a6 :: a7 :: a8 :: a9 :: a10 :: a11 :: a12 :: a13 :: a14 :: a15 :: a16 :: a17 :: a18 :: a19 :: r).set 19 x = a0 :: a1 :: a2 :: a3 :: a4 :: a5 :: a6 :: a7 :: a8 :: a9 :: a10 :: a11 :: a12 :: a13 :: a14 :: a15 :: a16 :: a17 :: a18 :: x :: r := by exact id rfl
theorem gt20 {a0 a1 a2 a3 a4 a5 a6 a7 a8 a9 a10 a11 a12 a13 a14 a15 a16 a17 a18 a19 a20 : Slot} {r : Env} : (a0 :: a1 :: a2 :: a3 :: a4 :: a5 :: a6 :: a7 :: a8 :: a9 :: a10 :: a11 :: a12 :: a13 :: a14 :: a15 :: a16 :: a17 :: a18 :: a19 :: a20 :: r)[20]? = some a20 := by exact id rfl
theorem st20 {a0 a1 a2 a3 a4 a5 a6 a7 a8 a9 a10 a11 a12 a13 a14 a15 a16 a17 a18 a19 a20 x : Slot} {r : Env} : (a0 :: a1 :: a2 :: a3 :: a4 :: a5 :: a6 :: a7 :: a8 :: a9 :: a10 :: a11 :: a12 :: a13 :: a14 :: a15 :: a16 :: a17 :: a18 :: a19 :: a20 :: r).set 20 x = a0 :: a1 :: a2 :: a3 :: a4 :: a5 :: a6 :: a7 :: a8 :: a9 :: a10 :: a11 :: a12 :: a13 :: a14 :: a15 :: a16 :: a17 :: a18 :: a19 :: x :: r := by exact id rfl
theorem gt21 {a0 a1 a2 a3 a4 a5 a6 a7 a8 a9 a10 a11 a12 a13 a14 a15 a16 a17 a18 a19 a20 a21 : Slot} {r : Env} : (a0 :: a1 :: a2 :: a3 :: a4 :: a5 :: a6 :: a7 :: a8 :: a9 :: a10 :: a11 :: a12 :: a13 :: a14 :: a15 :: a16 :: a17 :: a18 :: a19 :: a20 :: a21 :: r)[21]? = some a21 := by exact id rfl
theorem st21 {a0 a1 a2 a3 a4 a5 a6 a7 a8 a9 a10 a11 a12 a13 a14 a15 a16 a17 a18 a19 a20 a21 x : Slot} {r : Env} : (a0 :: a1 :: a2 :: a3 :: a4 :: a5 :: a6 :: a7 :: a8 :: a9 :: a10 :: a11 :: a12 :: a13 :: a14 :: a15 :: a16 :: a17 :: a18 :: a19 :: a20 :: a21 :: r).set 21 x = a0 :: a1 :: a2 :: a3 :: a4 :: a5 :: a6 :: a7 :: a8 :: a9 :: a10 :: a11 :: a12 :: a13 :: a14 :: a15 :: a16 :: a17 :: a18 :: a19 :: a20 :: x :: r := by exact id rfl
theorem gt22 {a0 a1 a2 a3 a4 a5 a6 a7 a8 a9 a10 a11 a12 a13 a14 a15 a16 a17 a18 a19 a20 a21 a22 : Slot} {r : Env} : (a0 :: a1 :: a2 :: a3 :: a4 :: a5 :: a6 :: a7 :: a8 :: a9 :: a10 :: a11 :: a12 :: a13 :: a14 :: a15 :: a16 :: a17 :: a18 :: a19 :: a20 :: a21 :: a22 :: r)[22]? = some a22 := by exact id rfl
theorem st22 {a0 a1 a2 a3 a4 a5 a6 a7 a8 a9 a10 a11 a12 a13 a14 a15 a16 a17 a18 a19 a20 a21 a22 x : Slot} {r : Env} : (a0 :: a1 :: a2 :: a3 :: a4 :: a5 :: a6 :: a7 :: a8 :: a9 :: a10 :: a11 :: a12 :: a13 :: a14 :: a15 :: a16 :: a17 :: a18 :: a19 :: a20 :: a21 :: a22 :: r).set 22 x = a0 :: a1 :: a2 :: a3 :: a4 :: a5 :: a6 :: a7 :: a8 :: a9 :: a10 :: a11 :: a12 :: a13 :: a14 :: a15 :: a16 :: a17 :: a18 :: a19 :: a20 :: a21 :: x :: r := by exact id rfl
theorem gt23 {a0 a1 a2 a3 a4 a5 a6 a7 a8 a9 a10 a11 a12 a13 a14 a15 a16 a17 a18 a19 a20 a21 a22 a23 : Slot} {r : Env} : (a0 :: a1 :: a2 :: a3 :: a4 :: a5 :: a6 :: a7 :: a8 :: a9 :: a10 :: a11 :: a12 :: a13 :: a14 :: a15 :: a16 :: a17 :: a18 :: a19 :: a20 :: a21 :: a22 :: a23 :: r)[23]? = some a23 := by exact id rfl
theorem st23 {a0 a1 a2 a3 a4 a5 a6 a7 a8 a9 a10 a11 a12 a13 a14 a15 a16 a17 a18 a19 a20 a21 a22 a23 x : Slot} {r : Env} : (a0 :: a1 :: a2 :: a3 :: a4 :: a5 :: a6 :: a7 :: a8 :: a9 :: a10 :: a11 :: a12 :: a13 :: a14 :: a15 :: a16 :: a17 :: a18 :: a19 :: a20 :: a21 :: a22 :: a23 :: r).set 23 x = a0 :: a1 :: a2 :: a3 :: a4 :: a5 :: a6 :: a7 :: a8 :: a9 :: a10 :: a11 :: a12 :: a13 :: a14 :: a15 :: a16 :: a17 :: a18 :: a19 :: a20 :: a21 :: a22 :: x :: r := by exact id rfl
theorem gt24 {a0 a1 a2 a3 a4 a5 a6 a7 a8 a9 a10 a11 a12 a13 a14 a15 a16 a17 a18 a19 a20 a21 a22 a23 a24 : Slot} {r : Env} : (a0 :: a1 :: a2 :: a3 :: a4 :: a5 :: a6 :: a7 :: a8 :: a9 :: a10 :: a11 :: a12 :: a13 :: a14 :: a15 :: a16 :: a17 :: a18 :: a19 :: a20 :: a21 :: a22 :: a23 :: a24 :: r)[24]? = some a24 := by exact id rfl
theorem st24 {a0 a1 a2 a3 a4 a5 a6 a7 a8 a9 a10 a11 a12 a13 a14 a15 a16 a17 a18 a19 a20 a21 a22 a23 a24 x : Slot} {r : Env} : (a0 :: a1 :: a2 :: a3 :: a4 :: a5 :: a6 :: a7 :: a8 :: a9 :: a10 :: a11 :: a12 :: a13 :: a14 :: a15 :: a16 :: a17 :: a18 :: a19 :: a20 :: a21 :: a22 :: a23 :: a24 :: r).set 24 x = a0 :: a1 :: a2 :: a3 :: a4 :: a5 :: a6 :: a7 :: a8 :: a9 :: a10 :: a11 :: a12 :: a13 :: a14 :: a15 :: a16 :: a17 :: a18 :: a19 :: a20 :: a21 :: a22 :: a23 :: x :: r := by exact id rfl
theorem gt25 {a0 a1 a2 a3 a4 a5 a6 a7 a8 a9 a10 a11 a12 a13 a14 a15 a16 a17 a18 a19 a20 a21 a22 a23 a24 a25 : Slot} {r : Env} : (a0 :: a1 :: a2 :: a3 :: a4 :: a5 :: a6 :: a7 :: a8 :: a9 :: a10 :: a11 :: a12 :: a13 :: a14 :: a15 :: a16 :: a17 :: a18 :: a19 :: a20 :: a21 :: a22 :: a23 :: a24 :: a25 :: r)[25]? = some a25 := by exact id rfl
theorem st25 {a0 a1 a2 a3 a4 a5 a6 a7 a8 a9 a10 a11 a12 a13 a14 a15 a16 a17 a18 a19 a20 a21 a22 a23 a24 a25 x : Slot} {r : Env} : (a0 :: a1 :: a2 :: a3 :: a4 :: a5 :: a6 :: a7 :: a8 :: a9 :: a10 :: a11 :: a12 :: a13 :: a14 :: a15 :: a16 :: a17 :: a18 :: a19 :: a20 :: a21 :: a22 :: a23 :: a24 :: a25 :: r).set 25 x = a0 :: a1 :: a2 :: a3 :: a4 :: a5 :: a6 :: a7 :: a8 :: a9 :: a10 :: a11 :: a12 :: a13 :: a14 :: a15 :: a16 :: a17 :: a18 :: a19 :: a20 :: a21 :: a22 :: a23 :: a24 :: x :: r := by exact id rfl
theorem z0 {Q : Opd → Env → Prop} {d : D} {n : Nat} {ρ : Env} : (kT Q ρ n d) = (Q (.tm n d) ρ) := propext Iff.rfl
theorem z1 {Q : Opd → Env → Prop} {d : D} {ρ : Env} : (kT0 Q ρ d) = (Q (.tm 0 d) ρ) := propext Iff.rfl
theorem z2 {Q : Opd → Env → Prop} {ds : List D} {r : RE} {ρ : Env} : (kR r Q ds ρ) = (r ds (kT Q ρ)) := propext Iff.rfl
theorem z3 {Q : Opd → Env → Prop} {os : List Opd} {r : RE} {ρ : Env} : (kE r Q os ρ) = (opnds ρ os (kR r Q)) := propext Iff.rfl
theorem z4 {E : ED} {Q : Opd → Env → Prop} {r : RE} {ws : WOs} {ρ : Env} : (wE r ws ρ Q E) = (ws ρ (kE r Q) E) := propext Iff.rfl
theorem z5 {Q : Opd → Env → Prop} {ds : List D} {ρ : Env} {r : RV} : (kV r Q ρ ds) = (r ds (kT0 Q ρ)) := propext Iff.rfl
theorem z6 {Q : Opd → Env → Prop} {os : List Opd} {ρ : Env} {r : RV} : (kS r Q os ρ) = (opnvs ρ os (kV r Q ρ)) := propext Iff.rfl
theorem z7 {E : ED} {Q : Opd → Env → Prop} {ws : WOs} {ρ : Env} {r : RV} : (wS r ws ρ Q E) = (ws ρ (kS r Q) E) := propext Iff.rfl
theorem z8 {d : D} {ds : List D} {kl : List D → Env → Prop} {ρ : Env} : (kO2 d kl ds ρ) = (kl (d :: ds) ρ) := propext Iff.rfl
theorem z9 {d : D} {kl : List D → Env → Prop} {os : List Opd} {ρ : Env} : (kO1 os kl d ρ) = (opnds ρ os (kO2 d kl)) := propext Iff.rfl
theorem z10 {kl : List D → Env → Prop} {ρ : Env} : (opnds ρ [] kl) = (kl [] ρ) := propext Iff.rfl
theorem z11 {kl : List D → Env → Prop} {o : Opd} {os : List Opd} {ρ : Env} : (opnds ρ (o :: os) kl) = (opnd ρ o (kO1 os kl)) := propext Iff.rfl
theorem z12 {d : D} {kd : D → Env → Prop} {n : Nat} {ρ : Env} : (opnd ρ (.tm n d) kd) = (kd d ρ) := propext Iff.rfl
theorem z13 {i : Nat} {kd : D → Env → Prop} {ρ : Env} : (opnd ρ (.rf i) kd) = (opS ρ[i]? i ρ kd) := propext Iff.rfl
theorem z14 {d : D} {i : Nat} {kd : D → Env → Prop} {ρ : Env} : (opS (some (some (0, d))) i ρ kd) = (kd d ρ) := propext Iff.rfl
theorem z15 {d : D} {i : Nat} {kd : D → Env → Prop} {ρ : Env} : (opS (some (some (1, d))) i ρ kd) = (kd d ρ) := propext Iff.rfl
theorem z16 {d : D} {i : Nat} {kd : D → Env → Prop} {n : Nat} {ρ : Env} : (opS (some (some (n + 2, d))) i ρ kd) = (kd d (ρ.set i (some (1, d)))) := propext Iff.rfl
theorem z17 {d : D} {ds : List D} {k1 : List D → Prop} : (kW2 d k1 ds) = (k1 (d :: ds)) := propext Iff.rfl
theorem z18 {d : D} {k1 : List D → Prop} {os : List Opd} {ρ : Env} : (kW1 ρ os k1 d) = (opnvs ρ os (kW2 d k1)) := propext Iff.rfl
theorem z19 {k1 : List D → Prop} {ρ : Env} : (opnvs ρ [] k1) = (k1 []) := propext Iff.rfl
theorem z20 {k1 : List D → Prop} {o : Opd} {os : List Opd} {ρ : Env} : (opnvs ρ (o :: os) k1) = (opnv ρ o (kW1 ρ os k1)) := propext Iff.rfl
theorem z21 {d : D} {k0 : D → Prop} {n : Nat} : (onSl (some (some (n, d))) k0) = (k0 d) := propext Iff.rfl
theorem z22 {d : D} {k0 : D → Prop} {n : Nat} {ρ : Env} : (opnv ρ (.tm n d) k0) = (k0 d) := propext Iff.rfl
theorem z23 {i : Nat} {k0 : D → Prop} {ρ : Env} : (opnv ρ (.rf i) k0) = (onSl ρ[i]? k0) := propext Iff.rfl
theorem z24 {d : D} {kn : Nat → D → Env → Prop} {n : Nat} {ρ : Env} : (toVal ρ (.tm n d) kn) = (kn n d ρ) := propext Iff.rfl
theorem z25 {i : Nat} {kn : Nat → D → Env → Prop} {ρ : Env} : (toVal ρ (.rf i) kn) = (tvS ρ[i]? i ρ kn) := propext Iff.rfl
theorem z26 {d : D} {i : Nat} {kn : Nat → D → Env → Prop} {n : Nat} {ρ : Env} : (tvS (some (some (n, d))) i ρ kn) = (kn 0 d (ρ.set i (some (0, d)))) := propext Iff.rfl
theorem z27 {d : D} {kp : List (Nat × D) → Env → Prop} {n : Nat} {ps : List (Nat × D)} {ρ : Env} : (kU2 n d kp ps ρ) = (kp ((n, d) :: ps) ρ) := propext Iff.rfl
theorem z28 {d : D} {kp : List (Nat × D) → Env → Prop} {n : Nat} {os : List Opd} {ρ : Env} : (kU1 os kp n d ρ) = (toVals ρ os (kU2 n d kp)) := propext Iff.rfl
theorem z29 {kp : List (Nat × D) → Env → Prop} {ρ : Env} : (toVals ρ [] kp) = (kp [] ρ) := propext Iff.rfl
theorem z30 {kp : List (Nat × D) → Env → Prop} {o : Opd} {os : List Opd} {ρ : Env} : (toVals ρ (o :: os) kp) = (toVal ρ o (kU1 os kp)) := propext Iff.rfl
theorem z31 {E : ED} {Q : Opd → Env → Prop} {d : D} {ρ : Env} : (wC d ρ Q E) = (Q (.tm 0 d) ρ) := propext Iff.rfl
theorem z32 {E : ED} {Q : Opd → Env → Prop} {i : Nat} {ρ : Env} : (wV i ρ Q E) = (wvS ρ[i]? i ρ Q) := propext Iff.rfl
theorem z33 {Q : Opd → Env → Prop} {i : Nat} {s : Nat × D} {ρ : Env} : (wvS (some (some s)) i ρ Q) = (Q (.rf i) ρ) := propext Iff.rfl
theorem z34 {Qs : List Opd → Env → Prop} {o : Opd} {os : List Opd} {ρ : Env} : (kC2 o Qs os ρ) = (Qs (o :: os) ρ) := propext Iff.rfl
theorem z35 {E : ED} {Qs : List Opd → Env → Prop} {o : Opd} {ws : WOs} {ρ : Env} : (kC1 ws Qs E o ρ) = (ws ρ (kC2 o Qs) E) := propext Iff.rfl
theorem z36 {E : ED} {Qs : List Opd → Env → Prop} {ρ : Env} : (wNil ρ Qs E) = (Qs [] ρ) := propext Iff.rfl
theorem z37 {E : ED} {Qs : List Opd → Env → Prop} {wa : WO} {ws : WOs} {ρ : Env} : (wCons wa ws ρ Qs E) = (wa ρ (kC1 ws Qs E) E) := propext Iff.rfl
theorem z38 {Q : Opd → Env → Prop} {m : Nat} {ps : List (Nat × D)} {ρ : Env} : (kTup m Q ps ρ) = (m ≤ 1000 ∧ Q (.tm 0 (.tup (ps.map (·.2)))) ρ) := propext Iff.rfl
theorem z39 {Q : Opd → Env → Prop} {os : List Opd} {ρ : Env} : (kTp Q os ρ) = (toVals ρ os (kTup os.length Q)) := propext Iff.rfl
theorem z40 {E : ED} {Q : Opd → Env → Prop} {ws : WOs} {ρ : Env} : (wTup ws ρ Q E) = (ws ρ (kTp Q) E) := propext Iff.rfl
theorem z41 {Q : Opd → Env → Prop} {m : Nat} {ps : List (Nat × D)} {ρ : Env} : (kLst m Q ps ρ) = (m ≤ 1000 ∧ Q (.tm 1 (.lst (ps.map (·.2)))) ρ) := propext Iff.rfl
theorem z42 {Q : Opd → Env → Prop} {os : List Opd} {ρ : Env} : (kLs Q os ρ) = (toVals ρ os (kLst os.length Q)) := propext Iff.rfl
theorem z43 {E : ED} {Q : Opd → Env → Prop} {ws : WOs} {ρ : Env} : (wLst ws ρ Q E) = (ws ρ (kLs Q) E) := propext Iff.rfl
theorem z44 {A : Prop} {B : Prop} : (bIf true A B) = (A) := propext Iff.rfl
theorem z45 {A : Prop} {B : Prop} : (bIf false A B) = (B) := propext Iff.rfl
theorem z46 {Qb : Bool → Env → Prop} {c : Bool} {ρ : Env} : (trS (some c) Qb ρ) = (Qb c ρ) := propext Iff.rfl
theorem z47 {Qb : Bool → Env → Prop} {d : D} {ρ : Env} : (kTr2 Qb ρ d) = (trS (truD d) Qb ρ) := propext Iff.rfl
theorem z48 {Qb : Bool → Env → Prop} {o : Opd} {ρ : Env} : (kTr Qb o ρ) = (opnv ρ o (kTr2 Qb ρ)) := propext Iff.rfl
theorem z49 {E : ED} {Qb : Bool → Env → Prop} {wa : WO} {ρ : Env} : (wTru wa ρ Qb E) = (wa ρ (kTr Qb) E) := propext Iff.rfl
theorem z50  : (truD .non) = (some false) := by exact id rfl
theorem z51 {c : Bool} : (truD (.bl c)) = (some c) := by exact id rfl
theorem z52  {i : Int} : (truD (.int i)) = (some (decide (i ≠ 0))) := by exact id rfl
theorem z53 {ds : List D} : (truD (.lst ds)) = (some (!ds.isEmpty)) := by exact id rfl
theorem z54 {ds : List D} : (truD (.tup ds)) = (some (!ds.isEmpty)) := by exact id rfl
theorem z55 {Qb : Bool → Env → Prop} {c : Bool} {n : Nat} {ρ : Env} : (kB Qb (.tm n (.bl c)) ρ) = (Qb c ρ) := propext Iff.rfl
theorem z56 {E : ED} {Qb : Bool → Env → Prop} {wa : WO} {ρ : Env} : (wB wa ρ Qb E) = (wa ρ (kB Qb) E) := propext Iff.rfl
theorem z57 {E : ED} {Qb : Bool → Env → Prop} {v : WT} {ρ : Env} : (kAT v Qb E true ρ) = (v ρ Qb E) := propext Iff.rfl
theorem z58 {E : ED} {Qb : Bool → Env → Prop} {v : WT} {ρ : Env} : (kAT v Qb E false ρ) = (Qb false ρ) := propext Iff.rfl
theorem z59 {E : ED} {Qb : Bool → Env → Prop} {u : WT} {v : WT} {ρ : Env} : (wAndT u v ρ Qb E) = (u ρ (kAT v Qb E) E) := propext Iff.rfl
theorem z60 {E : ED} {Qb : Bool → Env → Prop} {v : WT} {ρ : Env} : (kOT v Qb E true ρ) = (Qb true ρ) := propext Iff.rfl
theorem z61 {E : ED} {Qb : Bool → Env → Prop} {v : WT} {ρ : Env} : (kOT v Qb E false ρ) = (v ρ Qb E) := propext Iff.rfl
theorem z62 {E : ED} {Qb : Bool → Env → Prop} {u : WT} {v : WT} {ρ : Env} : (wOrT u v ρ Qb E) = (u ρ (kOT v Qb E) E) := propext Iff.rfl
theorem z63 {Qb : Bool → Env → Prop} {c : Bool} {ρ : Env} : (kNT Qb c ρ) = (Qb (!c) ρ) := propext Iff.rfl
theorem z64 {E : ED} {Qb : Bool → Env → Prop} {u : WT} {ρ : Env} : (wNotT u ρ Qb E) = (u ρ (kNT Qb) E) := propext Iff.rfl
theorem z65 {E : ED} {Qb : Bool → Env → Prop} {ρ : Env} : (wYes ρ Qb E) = (Qb true ρ) := propext Iff.rfl
theorem z66 {c : Bool} {kb : Bool → Prop} : (blK kb (.bl c)) = (kb c) := propext Iff.rfl
theorem z67 {E : ED} {Q : Opd → Env → Prop} {wb : WO} {ρ : Env} : (kAn2 wb Q E ρ true) = (wb ρ Q E) := propext Iff.rfl
theorem z68 {E : ED} {Q : Opd → Env → Prop} {wb : WO} {ρ : Env} : (kAn2 wb Q E ρ false) = (Q (.tm 0 (.bl false)) ρ) := propext Iff.rfl
theorem z69 {E : ED} {Q : Opd → Env → Prop} {o : Opd} {wb : WO} {ρ : Env} : (kAn wb Q E o ρ) = (opnv ρ o (blK (kAn2 wb Q E ρ))) := propext Iff.rfl
theorem z70 {E : ED} {Q : Opd → Env → Prop} {wa : WO} {wb : WO} {ρ : Env} : (wAnd wa wb ρ Q E) = (wa ρ (kAn wb Q E) E) := propext Iff.rfl
theorem z71 {E : ED} {Q : Opd → Env → Prop} {wb : WO} {ρ : Env} : (kOr2 wb Q E ρ true) = (Q (.tm 0 (.bl true)) ρ) := propext Iff.rfl
theorem z72 {E : ED} {Q : Opd → Env → Prop} {wb : WO} {ρ : Env} : (kOr2 wb Q E ρ false) = (wb ρ Q E) := propext Iff.rfl
theorem z73 {E : ED} {Q : Opd → Env → Prop} {o : Opd} {wb : WO} {ρ : Env} : (kOr wb Q E o ρ) = (opnv ρ o (blK (kOr2 wb Q E ρ))) := propext Iff.rfl
theorem z74 {E : ED} {Q : Opd → Env → Prop} {wa : WO} {wb : WO} {ρ : Env} : (wOr wa wb ρ Q E) = (wa ρ (kOr wb Q E) E) := propext Iff.rfl
theorem z75 {Q : Opd → Env → Prop} {c : Bool} {ρ : Env} : (kNo2 Q ρ c) = (Q (.tm 0 (.bl (!c))) ρ) := propext Iff.rfl
theorem z76 {Q : Opd → Env → Prop} {o : Opd} {ρ : Env} : (kNo Q o ρ) = (opnv ρ o (blK (kNo2 Q ρ))) := propext Iff.rfl
theorem z77 {E : ED} {Q : Opd → Env → Prop} {wa : WO} {ρ : Env} : (wNot wa ρ Q E) = (wa ρ (kNo Q) E) := propext Iff.rfl
theorem z78 {E : ED} {Q : Opd → Env → Prop} {wa : WO} {wb : WO} {ρ : Env} : (kIe wa wb Q E true ρ) = (wa ρ Q E) := propext Iff.rfl
theorem z79 {E : ED} {Q : Opd → Env → Prop} {wa : WO} {wb : WO} {ρ : Env} : (kIe wa wb Q E false ρ) = (wb ρ Q E) := propext Iff.rfl
theorem z80 {E : ED} {Q : Opd → Env → Prop} {u : WT} {wa : WO} {wb : WO} {ρ : Env} : (wIf u wa wb ρ Q E) = (u ρ (kIe wa wb Q E) E) := propext Iff.rfl
theorem z81  {i : Int} {ki : Int → Prop} : (inK ki (.int i)) = (ki i) := propext Iff.rfl
theorem z82 {ρ : Env} {i : Int} {kie : Int → Env → Prop} : (kI2 kie ρ i) = (kie i ρ) := propext Iff.rfl
theorem z83 {o : Opd} {ρ : Env} {kie : Int → Env → Prop} : (kI kie o ρ) = (opnv ρ o (inK (kI2 kie ρ))) := propext Iff.rfl
theorem z84 {E : ED} {wa : WO} {ρ : Env} {kie : Int → Env → Prop} : (wI wa kie E ρ) = (wa ρ (kI kie) E) := propext Iff.rfl
theorem z85 {Q : Opd → Env → Prop} {o : Opd} {ρ : Env} {i : Int} : (kN2 Q o ρ i) = (Q o ρ) := propext Iff.rfl
theorem z86 {Q : Opd → Env → Prop} {o : Opd} {ρ : Env} : (kN Q o ρ) = (opnv ρ o (inK (kN2 Q o ρ))) := propext Iff.rfl
theorem z87 {E : ED} {Q : Opd → Env → Prop} {wa : WO} {ρ : Env} : (wInt wa ρ Q E) = (wa ρ (kN Q) E) := propext Iff.rfl
theorem z88 {Q : Opd → Env → Prop} {ρ : Env} {q : Int → Int → Bool} {j l : Int} : (kCh3 q j Q l ρ) = (Q (.tm 0 (.bl (q j l))) ρ) := propext Iff.rfl
theorem z89 {E : ED} {Q : Opd → Env → Prop} {wc : WO} {ρ : Env} {p q : Int → Int → Bool} {i j : Int} : (kCh2 p q i wc Q E j ρ) = (kCh2b q j wc Q E (p i j) ρ) := propext Iff.rfl
theorem z90 {E : ED} {Q : Opd → Env → Prop} {wc : WO} {ρ : Env} {q : Int → Int → Bool} {j : Int} : (kCh2b q j wc Q E true ρ) = (wI wc (kCh3 q j Q) E ρ) := propext Iff.rfl
theorem z91 {E : ED} {Q : Opd → Env → Prop} {wc : WO} {ρ : Env} {q : Int → Int → Bool} {j : Int} : (kCh2b q j wc Q E false ρ) = (Q (.tm 0 (.bl false)) ρ) := propext Iff.rfl
theorem z92 {E : ED} {Q : Opd → Env → Prop} {wb : WO} {wc : WO} {ρ : Env} {p q : Int → Int → Bool} {i : Int} : (kCh1 p q wb wc Q E i ρ) = (wI wb (kCh2 p q i wc Q E) E ρ) := propext Iff.rfl
theorem z93 {E : ED} {Q : Opd → Env → Prop} {wa : WO} {wb : WO} {wc : WO} {ρ : Env} {p q : Int → Int → Bool} : (wChain p q wa wb wc ρ Q E) = (wI wa (kCh1 p q wb wc Q E) E ρ) := propext Iff.rfl
theorem z94 {Q : Opd → Env → Prop} {ρ : Env} {i : Int} : (kLR1 Q i ρ) = (rgOk 0 i ∧ Q (.tm 1 (.lst (rgD 0 i))) ρ) := propext Iff.rfl
theorem z95 {E : ED} {Q : Opd → Env → Prop} {wa : WO} {ρ : Env} : (wLR1 wa ρ Q E) = (wI wa (kLR1 Q) E ρ) := propext Iff.rfl
theorem z96 {Q : Opd → Env → Prop} {ρ : Env} {i : Int} : (kTR1 Q i ρ) = (rgOk 0 i ∧ Q (.tm 0 (.tup (rgD 0 i))) ρ) := propext Iff.rfl
theorem z97 {E : ED} {Q : Opd → Env → Prop} {wa : WO} {ρ : Env} : (wTR1 wa ρ Q E) = (wI wa (kTR1 Q) E ρ) := propext Iff.rfl
theorem z98 {Q : Opd → Env → Prop} {ρ : Env} {i j : Int} : (kLR2b i Q j ρ) = (rgOk i j ∧ Q (.tm 1 (.lst (rgD i j))) ρ) := propext Iff.rfl
theorem z99 {E : ED} {Q : Opd → Env → Prop} {wb : WO} {ρ : Env} {i : Int} : (kLR2 wb Q E i ρ) = (wI wb (kLR2b i Q) E ρ) := propext Iff.rfl
theorem z100 {E : ED} {Q : Opd → Env → Prop} {wa : WO} {wb : WO} {ρ : Env} : (wLR2 wa wb ρ Q E) = (wI wa (kLR2 wb Q E) E ρ) := propext Iff.rfl
theorem z101 {Q : Opd → Env → Prop} {ρ : Env} {i j : Int} : (kTR2b i Q j ρ) = (rgOk i j ∧ Q (.tm 0 (.tup (rgD i j))) ρ) := propext Iff.rfl
theorem z102 {E : ED} {Q : Opd → Env → Prop} {wb : WO} {ρ : Env} {i : Int} : (kTR2 wb Q E i ρ) = (wI wb (kTR2b i Q) E ρ) := propext Iff.rfl
theorem z103 {E : ED} {Q : Opd → Env → Prop} {wa : WO} {wb : WO} {ρ : Env} : (wTR2 wa wb ρ Q E) = (wI wa (kTR2 wb Q E) E ρ) := propext Iff.rfl
theorem z104  {f1 : D → (Nat → D → Prop) → Prop} {k : Nat → D → Prop} {a : D} : (on1 f1 [a] k) = (f1 a k) := propext Iff.rfl
theorem z105  {f1 : D → (D → Prop) → Prop} {k : D → Prop} {a : D} : (on1V f1 [a] k) = (f1 a k) := propext Iff.rfl
theorem z106  {f2 : D → D → (Nat → D → Prop) → Prop} {k : Nat → D → Prop} {a b : D} : (on2 f2 [a, b] k) = (f2 a b k) := propext Iff.rfl
theorem z107  {f2 : D → D → (D → Prop) → Prop} {k : D → Prop} {a b : D} : (on2V f2 [a, b] k) = (f2 a b k) := propext Iff.rfl
theorem z108  {k : Nat → D → Prop} {i j : Int} : (addD (.int i) (.int j) k) = (k 0 (.int (i + j))) := propext Iff.rfl
theorem z109  {k : Nat → D → Prop} {xs ys : List D} : (addD (.lst xs) (.lst ys) k) = (xs.length + ys.length ≤ 1000000 ∧ k 1 (.lst (xs ++ ys))) := propext Iff.rfl
theorem z110  {k : Nat → D → Prop} {xs ys : List D} : (addD (.tup xs) (.tup ys) k) = (xs.length + ys.length ≤ 1000000 ∧ k 0 (.tup (xs ++ ys))) := propext Iff.rfl
theorem z_sub  {k : Nat → D → Prop} {i j : Int} : (subD (.int i) (.int j) k) = (True ∧ k 0 (.int (i - j))) := propext Iff.rfl
theorem z112  {k : Nat → D → Prop} {i j : Int} : (mulD (.int i) (.int j) k) = (CMul i j ∧ k 0 (.int (i * j))) := propext Iff.rfl
theorem z113  {k : Nat → D → Prop} {j : Int} {xs : List D} : (mulD (.lst xs) (.int j) k) = (j ≤ 1000000 ∧ -1000000 ≤ j ∧ xs.length * j.toNat ≤ 1000000 ∧ k 1 (.lst (List.replicate j.toNat xs).flatten)) := propext Iff.rfl
theorem z114  {k : Nat → D → Prop} {j : Int} {xs : List D} : (mulD (.tup xs) (.int j) k) = (xs ≠ [] ∧ 2 ≤ j ∧ j ≤ 1000 ∧ xs.length ≤ 1000 ∧ k 0 (.tup (List.replicate j.toNat xs).flatten)) := propext Iff.rfl
theorem z115  {C : Int → Int → Prop} {f : Int → Int → Int} {k : Nat → D → Prop} {i j : Int} : (intOp C f (.int i) (.int j) k) = (C i j ∧ k 0 (.int (f i j))) := propext Iff.rfl
theorem z116  {k : D → Prop} {i : Int} : (negD (.int i) k) = (k (.int (-i))) := propext Iff.rfl
theorem z117  {pc : Int → Int → Bool} {k : D → Prop} {i j : Int} : (cmpD pc (.int i) (.int j) k) = (k (.bl (pc i j))) := propext Iff.rfl
theorem z118  {a b : D} {k : D → Prop} : (eqD a b k) = (pdB 60 a = true ∧ pdB 60 b = true ∧ k (.bl (eqB a b))) := propext Iff.rfl
theorem z119  {a b : D} {k : D → Prop} : (neD a b k) = (pdB 60 a = true ∧ pdB 60 b = true ∧ k (.bl (!eqB a b))) := propext Iff.rfl
theorem z120  {k : D → Prop} {c : Bool} : (isD (.bl c) .non k) = (k (.bl false)) := propext Iff.rfl
theorem z121  {k : D → Prop} {c : Bool} : (isntD (.bl c) .non k) = (k (.bl true)) := propext Iff.rfl
theorem z122  {k : D → Prop} {i : Int} : (isD (.int i) .non k) = (k (.bl false)) := propext Iff.rfl
theorem z123  {k : D → Prop} {i : Int} : (isntD (.int i) .non k) = (k (.bl true)) := propext Iff.rfl
theorem z124  {k : D → Prop} {x : PySem.Str} : (isD (.str x) .non k) = (k (.bl false)) := propext Iff.rfl
theorem z125  {k : D → Prop} {x : PySem.Str} : (isntD (.str x) .non k) = (k (.bl true)) := propext Iff.rfl
theorem z126  {k : D → Prop} {xs : List D} : (isD (.tup xs) .non k) = (k (.bl false)) := propext Iff.rfl
theorem z127  {k : D → Prop} {xs : List D} : (isntD (.tup xs) .non k) = (k (.bl true)) := propext Iff.rfl
theorem z128  {k : D → Prop} {xs : List D} : (isD (.lst xs) .non k) = (k (.bl false)) := propext Iff.rfl
theorem z129  {k : D → Prop} {xs : List D} : (isntD (.lst xs) .non k) = (k (.bl true)) := propext Iff.rfl
theorem z130  {k : D → Prop} : (isD .non .non k) = (k (.bl true)) := propext Iff.rfl
theorem z131  {k : D → Prop} : (isntD .non .non k) = (k (.bl false)) := propext Iff.rfl
theorem z132  {k : D → Prop} {c e : Bool} : (isD (.bl c) (.bl e) k) = (k (.bl (decide (c = e)))) := propext Iff.rfl
theorem z133  {k : D → Prop} {c e : Bool} : (isntD (.bl c) (.bl e) k) = (k (.bl (!decide (c = e)))) := propext Iff.rfl
theorem z134  {k : D → Prop} {xs : List D} : (lenD (.lst xs) k) = (k (.int (xs.length : Nat))) := propext Iff.rfl
theorem z135  {k : D → Prop} {xs : List D} : (lenD (.tup xs) k) = (k (.int (xs.length : Nat))) := propext Iff.rfl
theorem z136  {k : D → Prop} {xs : List D} : (lenD (.scr xs) k) = (k (.int (xs.length : Nat))) := propext Iff.rfl
theorem z137  {k : D → Prop} {i : Int} : (int1D (.int i) k) = (k (.int i)) := propext Iff.rfl
theorem z138  {k : D → Prop} {c : Bool} : (int1D (.bl c) k) = (k (.int (if c then 1 else 0))) := propext Iff.rfl
theorem z139  {k : D → Prop} {i : Int} : (absD (.int i) k) = (k (.int (if i < 0 then -i else i))) := propext Iff.rfl
theorem z140  {k : D → Prop} {i j : Int} : (max2D (.int i) (.int j) k) = (k (.int (if j > i then j else i))) := propext Iff.rfl
theorem z141  {k : D → Prop} {i j : Int} : (min2D (.int i) (.int j) k) = (k (.int (if j < i then j else i))) := propext Iff.rfl
theorem z_atK  {α : Type} {a : α} {k : α → Prop} : (atK (some a) k) = (k a) := propext Iff.rfl
theorem z143  {k : D → Prop} {f : List Bool → Bool} {l : List Bool} : (blsK k f l) = (k (.bl (f l))) := propext Iff.rfl
theorem z144  {k : D → Prop} {xs : List D} : (allD (.lst xs) k) = (atK (bls? xs) (blsK k (fun l => l.all id))) := ex_atK
theorem z145  {k : D → Prop} {xs : List D} : (anyD (.lst xs) k) = (atK (bls? xs) (blsK k (fun l => l.any id))) := ex_atK
theorem z146  {k : D → Prop} {l : List Int} : (sumK k l) = (k (.int l.sum)) := propext Iff.rfl
theorem z147  {k : D → Prop} {xs : List D} : (sumD (.lst xs) k) = (atK (ints? xs) (sumK k)) := ex_atK
theorem z148  {k : Nat → D → Prop} {xs : List D} : (tupD (.lst xs) k) = (k 0 (.tup xs)) := propext Iff.rfl
theorem z149  {k : Nat → D → Prop} {xs : List D} : (tupD (.tup xs) k) = (k 0 (.tup xs)) := propext Iff.rfl
theorem z150  {k : Nat → D → Prop} {xs : List D} : (lstD (.lst xs) k) = (k 1 (.lst xs)) := propext Iff.rfl
theorem z151  {k : Nat → D → Prop} {xs : List D} : (lstD (.tup xs) k) = (k 1 (.lst xs)) := propext Iff.rfl
theorem z152  {k : Nat → D → Prop} {i : Int} {xs : List D} : (ixD (.lst xs) (.int i) k) = (atK (atI xs i) (k 0)) := ex_atK
theorem z153  {k : Nat → D → Prop} {i : Int} {xs : List D} : (ixD (.tup xs) (.int i) k) = (atK (atI xs i) (k 0)) := ex_atK
theorem z154  {k : Nat → D → Prop} {i : Int} {xs : List D} : (ixD (.scr xs) (.int i) k) = (atK (atI xs i) (k 0)) := ex_atK
theorem z155  {k : Nat → D → Prop} {xs : List D} {lo hi : Option Int} : (slD (.lst xs) lo hi k) = (k 1 (.lst (cut xs lo hi))) := propext Iff.rfl
theorem z156  {k : Nat → D → Prop} {xs : List D} {lo hi : Option Int} : (slD (.tup xs) lo hi k) = (k 0 (.tup (cut xs lo hi))) := propext Iff.rfl
theorem z157  {k : Nat → D → Prop} {i j : Int} {a : D} : (rSl2 [a, .int i, .int j] k) = (slD a (some i) (some j) k) := propext Iff.rfl
theorem z158  {k : Nat → D → Prop} {i : Int} {a : D} : (rSlL [a, .int i] k) = (slD a (some i) none k) := propext Iff.rfl
theorem z159  {k : Nat → D → Prop} {i : Int} {a : D} : (rSlH [a, .int i] k) = (slD a none (some i) k) := propext Iff.rfl
theorem z160  {k : Nat → D → Prop} {a : D} : (rSl0 [a] k) = (slD a none none k) := propext Iff.rfl
theorem z161  {k : D → Prop} {a : D} {t : String} : (isiD a (.ty t) k) = ((typD a).isSome = true ∧ t ∈ okTys ∧ k (.bl (isiB a t))) := propext Iff.rfl
theorem z162 {n : Nat} {a : D} {k : D → Prop} {l : List String} : (isiK a k l) = ((∀ n ∈ l, n ∈ okTys) ∧ k (.bl (l.any (isiB a)))) := propext Iff.rfl
theorem z163  {a : D} {ts : List D} {k : D → Prop} : (isiD a (.tup ts) k) = ((typD a).isSome = true ∧ atK (tys? ts) (isiK a k)) := by rw [← ex_atK]; exact propext Iff.rfl
theorem z164  : (typD .non) = (some "NoneType") := by exact id rfl
theorem z165  : (isiB .non "int") = (false) := by exact id rfl
theorem z166  : (isiB .non "bool") = (false) := by exact id rfl
theorem z167  : (isiB .non "str") = (false) := by exact id rfl
theorem z168  : (isiB .non "list") = (false) := by exact id rfl
theorem z169  : (isiB .non "tuple") = (false) := by exact id rfl
theorem z170  {c : Bool} : (typD (.bl c)) = (some "bool") := by exact id rfl
theorem z171  {c : Bool} : (isiB (.bl c) "int") = (true) := by exact id rfl
theorem z172  {c : Bool} : (isiB (.bl c) "bool") = (true) := by exact id rfl
theorem z173  {c : Bool} : (isiB (.bl c) "str") = (false) := by exact id rfl
theorem z174  {c : Bool} : (isiB (.bl c) "list") = (false) := by exact id rfl
theorem z175  {c : Bool} : (isiB (.bl c) "tuple") = (false) := by exact id rfl
theorem z176  {i : Int} : (typD (.int i)) = (some "int") := by exact id rfl
theorem z177  {i : Int} : (isiB (.int i) "int") = (true) := by exact id rfl
theorem z178  {i : Int} : (isiB (.int i) "bool") = (false) := by exact id rfl
theorem z179  {i : Int} : (isiB (.int i) "str") = (false) := by exact id rfl
theorem z180  {i : Int} : (isiB (.int i) "list") = (false) := by exact id rfl
theorem z181  {i : Int} : (isiB (.int i) "tuple") = (false) := by exact id rfl
theorem z182  {x : PySem.Str} : (typD (.str x)) = (some "str") := by exact id rfl
theorem z183  {x : PySem.Str} : (isiB (.str x) "int") = (false) := by exact id rfl
theorem z184  {x : PySem.Str} : (isiB (.str x) "bool") = (false) := by exact id rfl
theorem z185  {x : PySem.Str} : (isiB (.str x) "str") = (true) := by exact id rfl
theorem z186  {x : PySem.Str} : (isiB (.str x) "list") = (false) := by exact id rfl
theorem z187  {x : PySem.Str} : (isiB (.str x) "tuple") = (false) := by exact id rfl
theorem z188  {xs : List D} : (typD (.tup xs)) = (some "tuple") := by exact id rfl
theorem z189  {xs : List D} : (isiB (.tup xs) "int") = (false) := by exact id rfl
theorem z190  {xs : List D} : (isiB (.tup xs) "bool") = (false) := by exact id rfl
theorem z191  {xs : List D} : (isiB (.tup xs) "str") = (false) := by exact id rfl
theorem z192  {xs : List D} : (isiB (.tup xs) "list") = (false) := by exact id rfl
theorem z193  {xs : List D} : (isiB (.tup xs) "tuple") = (true) := by exact id rfl
theorem z194  {xs : List D} : (typD (.lst xs)) = (some "list") := by exact id rfl
theorem z195  {xs : List D} : (isiB (.lst xs) "int") = (false) := by exact id rfl
theorem z196  {xs : List D} : (isiB (.lst xs) "bool") = (false) := by exact id rfl
theorem z197  {xs : List D} : (isiB (.lst xs) "str") = (false) := by exact id rfl
theorem z198  {xs : List D} : (isiB (.lst xs) "list") = (true) := by exact id rfl
theorem z199  {xs : List D} : (isiB (.lst xs) "tuple") = (false) := by exact id rfl
theorem z200 {T : DEnds} {w : WS} {ρ : Env} : ((seqE T w).nx ρ) = (w T ρ) := propext Iff.rfl
theorem z201 {T : DEnds} {w : WS} {ρ : Env} : ((seqE T w).bk ρ) = (T.bk ρ) := propext Iff.rfl
theorem z202 {T : DEnds} {w : WS} {ρ : Env} : ((seqE T w).ct ρ) = (T.ct ρ) := propext Iff.rfl
theorem z203 {T : DEnds} {d : D} {n : Nat} {w : WS} {ρ : Env} : ((seqE T w).rt n d ρ) = (T.rt n d ρ) := propext Iff.rfl
theorem z204 {T : DEnds} {w : WS} {x : Exn} {ρ : Env} : ((seqE T w).ex x ρ) = (T.ex x ρ) := propext Iff.rfl
theorem z205 {T : DEnds} {ρ : Env} : (wNext T ρ) = (T.nx ρ) := propext Iff.rfl
theorem z206 {T : DEnds} {w : WS} {w2 : WS} {ρ : Env} : (wSeq w w2 T ρ) = (w (seqE T w2) ρ) := propext Iff.rfl
theorem z207 {T : DEnds} {ρ : Env} : (wBreak T ρ) = (T.bk ρ) := propext Iff.rfl
theorem z208 {T : DEnds} {ρ : Env} : (wCont T ρ) = (T.ct ρ) := propext Iff.rfl
theorem z209 {T : DEnds} {o : Opd} {ρ : Env} : (kEx T o ρ) = (T.nx ρ) := propext Iff.rfl
theorem z210 {T : DEnds} {wa : WO} {ρ : Env} : (wExpr wa T ρ) = (wa ρ (kEx T) T.ex) := propext Iff.rfl
theorem z211 {d : D} {kn : Nat → D → Env → Prop} {n : Nat} {ρ : Env} : (retV ρ (.tm n d) kn) = (kn n d ρ) := propext Iff.rfl
theorem z212 {i : Nat} {kn : Nat → D → Env → Prop} {ρ : Env} : (retV ρ (.rf i) kn) = (rtS ρ[i]? i ρ kn) := propext Iff.rfl
theorem z213 {d : D} {i : Nat} {kn : Nat → D → Env → Prop} {ρ : Env} : (rtS (some (some (0, d))) i ρ kn) = (kn 0 d ρ) := propext Iff.rfl
theorem z214 {d : D} {i : Nat} {kn : Nat → D → Env → Prop} {n : Nat} {ρ : Env} : (rtS (some (some (n + 1, d))) i ρ kn) = (kn (n + 1) d (ρ.set i none)) := propext Iff.rfl
theorem z215 {T : DEnds} {o : Opd} {ρ : Env} : (kRet T o ρ) = (retV ρ o T.rt) := propext Iff.rfl
theorem z216 {T : DEnds} {wa : WO} {ρ : Env} : (wRet wa T ρ) = (wa ρ (kRet T) T.ex) := propext Iff.rfl
theorem z217 {T : DEnds} {ρ : Env} : (wRetN T ρ) = (T.rt 0 .non ρ) := propext Iff.rfl
theorem z218 {T : DEnds} {w : WS} {w2 : WS} {ρ : Env} : (kIf w w2 T true ρ) = (w T ρ) := propext Iff.rfl
theorem z219 {T : DEnds} {w : WS} {w2 : WS} {ρ : Env} : (kIf w w2 T false ρ) = (w2 T ρ) := propext Iff.rfl
theorem z220 {T : DEnds} {u : WT} {w : WS} {w2 : WS} {ρ : Env} : (wIfS u w w2 T ρ) = (u ρ (kIf w w2 T) T.ex) := propext Iff.rfl
theorem z221 {T : DEnds} {d : D} {n : Nat} {t : Tgt} {ρ : Env} : (kAs2 t T n d ρ) = (t.asg n d ρ T.nx) := propext Iff.rfl
theorem z222 {T : DEnds} {o : Opd} {t : Tgt} {ρ : Env} : (kAs t T o ρ) = (toVal ρ o (kAs2 t T)) := propext Iff.rfl
theorem z223 {T : DEnds} {t : Tgt} {wa : WO} {ρ : Env} : (wAsg t wa T ρ) = (wa ρ (kAs t T) T.ex) := propext Iff.rfl
theorem z224 {d : D} {i : Nat} {ke : Env → Prop} {n : Nat} {ρ : Env} : (Tgt.asg (.nm i) n d ρ ke) = (ke (ρ.set i (some (n, d)))) := propext Iff.rfl
theorem z225 {ds : List D} {ke : Env → Prop} {ls : List Nat} {n : Nat} {ρ : Env} : (Tgt.asg (.tp ls) n (.tup ds) ρ ke) = (ds.length = ls.length ∧ ke (setS ρ ls ds)) := propext Iff.rfl
theorem z226 {d : D} {ds : List D} {i : Nat} {ls : List Nat} {ρ : Env} : (setS ρ (i :: ls) (d :: ds)) = (setS (ρ.set i (some (0, d))) ls ds) := by exact id rfl
theorem z227 {ds : List D} {ρ : Env} : (setS ρ [] ds) = (ρ) := by exact id rfl
theorem z228 {d : D} {ds : List D} {k1 : List D → Prop} : (kOut d k1 ds) = (k1 (d :: ds)) := propext Iff.rfl
theorem z229 {k1 : List D → Prop} {ρ : Env} : (outs [] [] ρ k1) = (k1 []) := propext Iff.rfl
theorem z230 {d : D} {ds : List D} {k1 : List D → Prop} {ms : List Nat} {ρ : Env} {s : Slot} : (outs (0 :: ms) (d :: ds) (s :: ρ) k1) = (outs ms ds ρ (kOut d k1)) := propext Iff.rfl
theorem z231 {d : D} {ds : List D} {e : D} {k1 : List D → Prop} {m : Nat} {ms : List Nat} {n : Nat} {ρ : Env} : (outs ((m + 1) :: ms) (d :: ds) (some (n, e) :: ρ) k1) = (n = m + 1 ∧ outs ms ds ρ (kOut e k1)) := propext Iff.rfl
theorem z232 {Ee : Exn → List D → Prop} {Rr : Nat → D → List D → Prop} {ds : List D} {ms : List Nat} {ρ : Env} : ((defEnds ms ds Rr Ee).nx ρ) = (outs ms ds ρ (Rr 0 .non)) := propext Iff.rfl
theorem z233 {Ee : Exn → List D → Prop} {Rr : Nat → D → List D → Prop} {d : D} {ds : List D} {ms : List Nat} {n : Nat} {ρ : Env} : ((defEnds ms ds Rr Ee).rt n d ρ) = (outs ms ds ρ (Rr n d)) := propext Iff.rfl
theorem z234 {Ee : Exn → List D → Prop} {Rr : Nat → D → List D → Prop} {ds : List D} {ms : List Nat} {x : Exn} {ρ : Env} : ((defEnds ms ds Rr Ee).ex x ρ) = (outs ms ds ρ (Ee x)) := propext Iff.rfl
theorem z235 {T : DEnds} {ke : Env → Prop} {ρ : Env} : ((lpE T ke).nx ρ) = (ke ρ) := propext Iff.rfl
theorem z236 {T : DEnds} {ke : Env → Prop} {ρ : Env} : ((lpE T ke).ct ρ) = (ke ρ) := propext Iff.rfl
theorem z237 {T : DEnds} {ke : Env → Prop} {ρ : Env} : ((lpE T ke).bk ρ) = (T.nx ρ) := propext Iff.rfl
theorem z238 {T : DEnds} {d : D} {ke : Env → Prop} {n : Nat} {ρ : Env} : ((lpE T ke).rt n d ρ) = (T.rt n d ρ) := propext Iff.rfl
theorem z239 {T : DEnds} {ke : Env → Prop} {x : Exn} {ρ : Env} : ((lpE T ke).ex x ρ) = (T.ex x ρ) := propext Iff.rfl
theorem z240 {T : DEnds} {ds : List D} {t : Tgt} {w : WS} {ρ : Env} : (kFor t w T ds ρ) = (forL t w T ds ρ) := propext Iff.rfl
theorem z241 {T : DEnds} {t : Tgt} {w : WS} {wi : WI} {ρ : Env} : (wFor t wi w T ρ) = (wi ρ (kFor t w T) T.ex) := propext Iff.rfl
theorem z242 {T : DEnds} {ds : List D} {t : Tgt} {w : WS} {ρ : Env} : (kFl t w T ds ρ) = (w (lpE T (forL t w T ds)) ρ) := propext Iff.rfl
theorem z_forN {T : DEnds} {t : Tgt} {w : WS} {ρ : Env} : (forL t w T [] ρ) = (T.nx ρ) := propext Iff.rfl
theorem z_forC {T : DEnds} {d : D} {ds : List D} {t : Tgt} {w : WS} {ρ : Env} : (forL t w T (d :: ds) ρ) = (t.asg 0 d ρ (kFl t w T ds)) := propext Iff.rfl
theorem z245 {ds : List D} {kl : List D → Env → Prop} {n : Nat} {ρ : Env} : (kIL2 kl n (.lst ds) ρ) = (kl ds ρ) := propext Iff.rfl
theorem z246 {kl : List D → Env → Prop} {o : Opd} {ρ : Env} : (kIL kl o ρ) = (toVal ρ o (kIL2 kl)) := propext Iff.rfl
theorem z247 {E : ED} {kl : List D → Env → Prop} {wa : WO} {ρ : Env} : (wIL wa ρ kl E) = (wa ρ (kIL kl) E) := propext Iff.rfl
theorem z248 {ds : List D} {kl : List D → Env → Prop} {n : Nat} {ρ : Env} : (kIT2 kl n (.tup ds) ρ) = (kl ds ρ) := propext Iff.rfl
theorem z249 {kl : List D → Env → Prop} {o : Opd} {ρ : Env} : (kIT kl o ρ) = (toVal ρ o (kIT2 kl)) := propext Iff.rfl
theorem z250 {E : ED} {kl : List D → Env → Prop} {wa : WO} {ρ : Env} : (wIT wa ρ kl E) = (wa ρ (kIT kl) E) := propext Iff.rfl
theorem z251 {ds : List D} {kl : List D → Env → Prop} {n : Nat} {ρ : Env} : (kIEt2 kl n (.tup ds) ρ) = (kl (enumL ds) ρ) := propext Iff.rfl
theorem z252 {kl : List D → Env → Prop} {o : Opd} {ρ : Env} : (kIEt kl o ρ) = (toVal ρ o (kIEt2 kl)) := propext Iff.rfl
theorem z253 {E : ED} {kl : List D → Env → Prop} {wa : WO} {ρ : Env} : (wIEt wa ρ kl E) = (wa ρ (kIEt kl) E) := propext Iff.rfl
theorem z254 {ds : List D} {kl : List D → Env → Prop} {n : Nat} {ρ : Env} : (kIEl2 kl n (.lst ds) ρ) = (kl (enumL ds) ρ) := propext Iff.rfl
theorem z255 {kl : List D → Env → Prop} {o : Opd} {ρ : Env} : (kIEl kl o ρ) = (toVal ρ o (kIEl2 kl)) := propext Iff.rfl
theorem z256 {E : ED} {kl : List D → Env → Prop} {wa : WO} {ρ : Env} : (wIEl wa ρ kl E) = (wa ρ (kIEl kl) E) := propext Iff.rfl
theorem z257 {kl : List D → Env → Prop} {ρ : Env} {j : Int} : (kIR12 kl ρ [.int j]) = (smallI j ∧ kl (rngL 0 j.toNat) ρ) := propext Iff.rfl
theorem z258 {kl : List D → Env → Prop} {os : List Opd} {ρ : Env} : (kIR1 kl os ρ) = (opnvs ρ os (kIR12 kl ρ)) := propext Iff.rfl
theorem z259 {E : ED} {kl : List D → Env → Prop} {ws : WOs} {ρ : Env} : (wIR1 ws ρ kl E) = (ws ρ (kIR1 kl) E) := propext Iff.rfl
theorem z260 {kl : List D → Env → Prop} {ρ : Env} {i j : Int} : (kIR22 kl ρ [.int i, .int j]) = (smallI i ∧ smallI j ∧ kl (rngL i (j - i).toNat) ρ) := propext Iff.rfl
theorem z261 {kl : List D → Env → Prop} {os : List Opd} {ρ : Env} : (kIR2 kl os ρ) = (opnvs ρ os (kIR22 kl ρ)) := propext Iff.rfl
theorem z262 {E : ED} {kl : List D → Env → Prop} {ws : WOs} {ρ : Env} : (wIR2 ws ρ kl E) = (ws ρ (kIR2 kl) E) := propext Iff.rfl
theorem z263 {T : DEnds} {ke : Env → Prop} {w : WS} {ρ : Env} : (kWh w T ke true ρ) = (w (lpE T ke) ρ) := propext Iff.rfl
theorem z264 {T : DEnds} {ke : Env → Prop} {w : WS} {ρ : Env} : (kWh w T ke false ρ) = (T.nx ρ) := propext Iff.rfl
theorem z265 {Q : Opd → Env → Prop} {ds : List D} {ρ : Env} : (kLcE Q ds ρ) = (Q (.tm 1 (.lst ds)) ρ) := propext Iff.rfl
theorem z266 {Q : Opd → Env → Prop} {ds : List D} {t : Tgt} {u : WT} {vs : List Nat} {wa : WO} {ρ : Env} : (kLc t vs u wa Q ds ρ) = (lcL t vs u wa (kLcE Q) ds [] (wipeE ρ vs)) := propext Iff.rfl
theorem z267 {E : ED} {Q : Opd → Env → Prop} {t : Tgt} {u : WT} {vs : List Nat} {wa : WO} {wi : WI} {ρ : Env} : (wLc t vs wi u wa ρ Q E) = (wi ρ (kLc t vs u wa Q) E) := propext Iff.rfl
theorem z268 {ρ : Env} : (wipeE ρ []) = (ρ) := by exact id rfl
theorem z269 {vs : List Nat} {ρ : Env} {v1 : Nat} : (wipeE ρ (v1 :: vs)) = ((wipeE ρ vs).set v1 none) := by exact id rfl
theorem z270 {d : D} {kl : List D → Env → Prop} {n : Nat} {vs : List Nat} {ρ : Env} {acc : List D} : (kLl4 acc vs kl n d ρ) = (acc.length < 1000000 ∧ kl (acc ++ [d]) (wipeE ρ vs)) := propext Iff.rfl
theorem z271 {kl : List D → Env → Prop} {o : Opd} {vs : List Nat} {ρ : Env} {acc : List D} : (kLl3 acc vs kl o ρ) = (toVal ρ o (kLl4 acc vs kl)) := propext Iff.rfl
theorem z272 {kl : List D → Env → Prop} {vs : List Nat} {wa : WO} {ρ : Env} {acc : List D} : (kLl2 acc vs wa kl true ρ) = (wa ρ (kLl3 acc vs kl) EF) := propext Iff.rfl
theorem z273 {kl : List D → Env → Prop} {vs : List Nat} {wa : WO} {ρ : Env} {acc : List D} : (kLl2 acc vs wa kl false ρ) = (kl acc (wipeE ρ vs)) := propext Iff.rfl
theorem z274 {kl : List D → Env → Prop} {u : WT} {vs : List Nat} {wa : WO} {ρ : Env} {acc : List D} : (kLl acc vs u wa kl ρ) = (u ρ (kLl2 acc vs wa kl) EF) := propext Iff.rfl
theorem z_lcN {kl : List D → Env → Prop} {t : Tgt} {u : WT} {vs : List Nat} {wa : WO} {ρ : Env} {acc : List D} : (lcL t vs u wa kl [] acc ρ) = (kl acc ρ) := propext Iff.rfl
theorem z_lcC {d : D} {ds : List D} {kl : List D → Env → Prop} {t : Tgt} {u : WT} {vs : List Nat} {wa : WO} {ρ : Env} {acc : List D} : (lcL t vs u wa kl (d :: ds) acc ρ) = (t.asg 0 d ρ (kLl acc vs u wa (lcL t vs u wa kl ds))) := propext Iff.rfl
theorem z277 {Q : Opd → Env → Prop} {d : D} {ds : List D} {ms : List Nat} {n : Nat} {os : List Opd} {ρ : Env} : (kRt Q ρ ms os n d ds) = (Q (.tm n d) (outsE ρ ms os ds)) := propext Iff.rfl
theorem z278 {E : ED} {ds : List D} {ms : List Nat} {os : List Opd} {x : Exn} {ρ : Env} : (kXt E ρ ms os x ds) = (E x (outsE ρ ms os ds)) := propext Iff.rfl
theorem z279 {E : ED} {Q : Opd → Env → Prop} {ds : List D} {ms : List Nat} {os : List Opd} {sp : DSpec} {ρ : Env} : (kCa ms sp Q E os ds ρ) = (sp ds (kRt Q ρ ms os) (kXt E ρ ms os)) := propext Iff.rfl
theorem z280 {E : ED} {Q : Opd → Env → Prop} {ms : List Nat} {os : List Opd} {sp : DSpec} {ρ : Env} : (kCl ms sp Q E os ρ) = (cargs ρ ms os (kCa ms sp Q E os)) := propext Iff.rfl
theorem z281 {E : ED} {Q : Opd → Env → Prop} {ms : List Nat} {sp : DSpec} {ws : WOs} {ρ : Env} : (wCall ms sp ws ρ Q E) = (ws ρ (kCl ms sp Q E) E) := propext Iff.rfl
theorem z282 {kl : List D → Env → Prop} {ρ : Env} : (cargs ρ [] [] kl) = (kl [] ρ) := propext Iff.rfl
theorem z283 {d : D} {kl : List D → Env → Prop} {ms : List Nat} {n : Nat} {os : List Opd} {ρ : Env} : (cargs ρ (0 :: ms) (.tm n d :: os) kl) = (cargs ρ ms os (kO2 d kl)) := propext Iff.rfl
theorem z284 {i : Nat} {kl : List D → Env → Prop} {ms : List Nat} {os : List Opd} {ρ : Env} : (cargs ρ (0 :: ms) (.rf i :: os) kl) = (caS ρ[i]? i ρ ms os kl) := propext Iff.rfl
theorem z285 {d : D} {i : Nat} {kl : List D → Env → Prop} {ms : List Nat} {n : Nat} {os : List Opd} {ρ : Env} : (caS (some (some (n, d))) i ρ ms os kl) = (cargs (ρ.set i (some (0, d))) ms os (kO2 d kl)) := propext Iff.rfl
theorem z286 {d : D} {kl : List D → Env → Prop} {m : Nat} {ms : List Nat} {n : Nat} {os : List Opd} {ρ : Env} : (cargs ρ ((m + 1) :: ms) (.tm n d :: os) kl) = (m + 1 ≤ n ∧ cargs ρ ms os (kO2 d kl)) := propext Iff.rfl
theorem z287 {i : Nat} {kl : List D → Env → Prop} {m : Nat} {ms : List Nat} {os : List Opd} {ρ : Env} : (cargs ρ ((m + 1) :: ms) (.rf i :: os) kl) = (caM ρ[i]? m i ρ ms os kl) := propext Iff.rfl
theorem z288 {d : D} {i : Nat} {kl : List D → Env → Prop} {m : Nat} {ms : List Nat} {n : Nat} {os : List Opd} {ρ : Env} : (caM (some (some (n, d))) m i ρ ms os kl) = (m + 1 ≤ n ∧ cargs (ρ.set i none) ms os (kO2 d kl)) := propext Iff.rfl
theorem z289 {d : D} {ds : List D} {i : Nat} {m : Nat} {ms : List Nat} {os : List Opd} {ρ : Env} : (outsE ρ ((m + 1) :: ms) (.rf i :: os) (d :: ds)) = ((outsE ρ ms os ds).set i (some (m + 1, d))) := by exact id rfl
theorem z290 {d : D} {ds : List D} {ms : List Nat} {o : Opd} {os : List Opd} {ρ : Env} : (outsE ρ (0 :: ms) (o :: os) (d :: ds)) = (outsE ρ ms os ds) := by exact id rfl
theorem z291 {ds : List D} {os : List Opd} {ρ : Env} : (outsE ρ [] os ds) = (ρ) := by exact id rfl
theorem z292 {d : D} {ds : List D} {e : D} {m : Nat} {ms : List Nat} {n : Nat} {os : List Opd} {ρ : Env} : (outsE ρ ((m + 1) :: ms) (.tm n e :: os) (d :: ds)) = (outsE ρ ms os ds) := by exact id rfl
theorem z293 {Q : Opd → Env → Prop} {d : D} {ds : List D} {i : Nat} {ρ : Env} : (kMtE Q i ρ ds d) = (Q (.tm 0 d) (ρ.set i (some (1, .lst ds)))) := propext Iff.rfl
theorem z294 {Q : Opd → Env → Prop} {ds : List D} {fm : Mth} {i : Nat} {n : Nat} {ρ : Env} {as : List D} : (mtS (some (some (n + 1, .lst ds))) i ρ fm as Q) = (fm ds as (kMtE Q i ρ)) := propext Iff.rfl
theorem z295 {Q : Opd → Env → Prop} {ds : List D} {fm : Mth} {i : Nat} {ρ : Env} {as : List D} : (mtS (some (some (1, .lst ds))) i ρ fm as Q) = (fm ds as (kMtE Q i ρ)) := propext Iff.rfl
theorem z296 {E : ED} {Q : Opd → Env → Prop} {fm : Mth} {i : Nat} {ρ : Env} : (wMt0 i fm ρ Q E) = (mtS ρ[i]? i ρ fm [] Q) := propext Iff.rfl
theorem z297 {Q : Opd → Env → Prop} {fm : Mth} {i : Nat} {ps : List (Nat × D)} {ρ : Env} : (kMt2 i fm Q ps ρ) = (mtS ρ[i]? i ρ fm (ps.map (·.2)) Q) := propext Iff.rfl
theorem z298 {Q : Opd → Env → Prop} {fm : Mth} {i : Nat} {os : List Opd} {ρ : Env} : (kMt i fm Q os ρ) = (toVals ρ os (kMt2 i fm Q)) := propext Iff.rfl
theorem z299 {ds : List D} {n : Nat} {A : Prop} : (ilS (some (some (n, .lst ds))) A) = (A) := propext Iff.rfl
theorem z300 {i : Nat} {ρ : Env} {A : Prop} : (isLst ρ i A) = (ilS ρ[i]? A) := propext Iff.rfl
theorem z301 {E : ED} {Q : Opd → Env → Prop} {fm : Mth} {i : Nat} {ws : WOs} {ρ : Env} : (wMt i fm ws ρ Q E) = (isLst ρ i (ws ρ (kMt i fm Q) E)) := propext Iff.rfl
theorem z302  {k : List D → D → Prop} {xs : List D} {a : D} : (appD xs [a] k) = (xs.length < 1000000 ∧ k (xs ++ [a]) .non) := propext Iff.rfl
theorem z303  {k : List D → D → Prop} {xs : List D} {a : D} : (popK k xs a) = (k xs.dropLast a) := propext Iff.rfl
theorem z304  {k : List D → D → Prop} {xs : List D} : (popD xs [] k) = (atK xs[xs.length - 1]? (popK k xs)) := ex_atK
theorem z305  {k : List D → D → Prop} {xs : List D} : (revD xs [] k) = (k xs.reverse .non) := propext Iff.rfl
theorem z306 {T : DEnds} {ds : List D} {i : Nat} {ρ : Env} : (kSt4 i ρ T ds) = (T.nx (ρ.set i (some (1, .lst ds)))) := propext Iff.rfl
theorem z307 {T : DEnds} {d : D} {ds : List D} {i : Nat} {n : Nat} {ρ : Env} {j : Int} : (stS (some (some (n + 1, .lst ds))) i ρ j d T) = (atK (setI ds j d) (kSt4 i ρ T)) := propext Iff.rfl
theorem z308 {T : DEnds} {d : D} {ds : List D} {i : Nat} {ρ : Env} {j : Int} : (stS (some (some (1, .lst ds))) i ρ j d T) = (atK (setI ds j d) (kSt4 i ρ T)) := propext Iff.rfl
theorem z309 {T : DEnds} {d : D} {i : Nat} {ρ : Env} {j : Int} : (kSt3 i d T j ρ) = (stS ρ[i]? i ρ j d T) := propext Iff.rfl
theorem z310 {T : DEnds} {d : D} {i : Nat} {n : Nat} {wa : WO} {ρ : Env} : (kSt2 i wa T n d ρ) = (isLst ρ i (wI wa (kSt3 i d T) T.ex ρ)) := propext Iff.rfl
theorem z311 {T : DEnds} {i : Nat} {o : Opd} {wa : WO} {ρ : Env} : (kSt i wa T o ρ) = (toVal ρ o (kSt2 i wa T)) := propext Iff.rfl
theorem z312 {T : DEnds} {i : Nat} {wa : WO} {wb : WO} {ρ : Env} : (wStore i wa wb T ρ) = (wb ρ (kSt i wa T) T.ex) := propext (by
  have h : ∀ (ρ1 : Env) (j : Int) (d : D), (onLst ρ1 i fun ds => ∃ ds', setI ds j d = some ds' ∧ T.nx (ρ1.set i (some (1, .lst ds')))) = stS ρ1[i]? i ρ1 j d T := fun ρ1 j d => by
    unfold onLst stS
    cases ρ1[i]? with
    | none => rfl
    | some s => cases s with
      | none => rfl
      | some p => obtain ⟨n, q⟩ := p; cases n <;> cases q <;> first | rfl | exact ex_atK
  have h2 : (fun (d : D) (j : Int) (ρ1 : Env) => (onLst ρ1 i fun ds => ∃ ds', setI ds j d = some ds' ∧ T.nx (ρ1.set i (some (1, .lst ds'))))) = fun d => kSt3 i d T := by
    funext d j ρ1; exact h ρ1 j d
  have h3 : ∀ d, (fun (j : Int) (ρ1 : Env) => (onLst ρ1 i fun ds => ∃ ds', setI ds j d = some ds' ∧ T.nx (ρ1.set i (some (1, .lst ds'))))) = kSt3 i d T := fun d => congrFun h2 d
  unfold wStore
  simp only [h3]
  exact Iff.rfl)
theorem z313 {T : DEnds} {ns : List Str} {ps : List (Nat × D)} {xn : Str} {ρ : Env} : (kRs xn ns T ps ρ) = (ps.length = ns.length ∧ ns.length ≤ 100 ∧ T.ex (xn, ns.reverse, (ps.map (·.2)).reverse) ρ) := propext Iff.rfl
theorem z314 {T : DEnds} {ns : List Str} {os : List Opd} {xn : Str} {ρ : Env} : (kRa xn ns T os ρ) = (toVals ρ os (kRs xn ns T)) := propext Iff.rfl
theorem z315 {T : DEnds} {ns : List Str} {ws : WOs} {xn : Str} {ρ : Env} : (wRaise xn ns ws T ρ) = (ws ρ (kRa xn ns T) T.ex) := propext Iff.rfl
theorem z316 {T : DEnds} {cl : List DCl} {sub : Str → Str → Option Bool} {ρ : Env} : ((tryE sub T cl).nx ρ) = (T.nx ρ) := propext Iff.rfl
theorem z317 {T : DEnds} {cl : List DCl} {sub : Str → Str → Option Bool} {ρ : Env} : ((tryE sub T cl).bk ρ) = (T.bk ρ) := propext Iff.rfl
theorem z318 {T : DEnds} {cl : List DCl} {sub : Str → Str → Option Bool} {ρ : Env} : ((tryE sub T cl).ct ρ) = (T.ct ρ) := propext Iff.rfl
theorem z319 {T : DEnds} {cl : List DCl} {d : D} {n : Nat} {sub : Str → Str → Option Bool} {ρ : Env} : ((tryE sub T cl).rt n d ρ) = (T.rt n d ρ) := propext Iff.rfl
theorem z320 {T : DEnds} {cl : List DCl} {sub : Str → Str → Option Bool} {x : Exn} {ρ : Env} : ((tryE sub T cl).ex x ρ) = (hnd sub T x ρ cl) := propext Iff.rfl
theorem z321 {T : DEnds} {cl : List DCl} {sub : Str → Str → Option Bool} {w : WS} {ρ : Env} : (wTry sub w cl T ρ) = (w (tryE sub T cl) ρ) := propext Iff.rfl
theorem z322 {T : DEnds} {sub : Str → Str → Option Bool} {x : Exn} {ρ : Env} : (hnd sub T x ρ []) = (T.ex x ρ) := propext Iff.rfl
theorem z323 {T : DEnds} {sub : Str → Str → Option Bool} {w : WS} {x : Exn} {ρ : Env} {y : Str} {v : Option Nat} {r : List DCl} : (hnd sub T x ρ ((y, v, w) :: r)) = (hnS (sub x.1 y) sub T x ρ y v w r) := by
  show (match sub x.1 y with | some true => x.1 = y ∧ w (goneD v ρ T) (onE v x ρ) | some false => hnd sub T x ρ r | none => False) = _
  unfold hnS
  rfl
theorem z324 {T : DEnds} {sub : Str → Str → Option Bool} {w : WS} {x : Exn} {ρ : Env} {y : Str} {v : Option Nat} {r : List DCl} : (hnS (some true) sub T x ρ y v w r) = (x.1 = y ∧ w (goneD v ρ T) (onE v x ρ)) := propext Iff.rfl
theorem z325 {T : DEnds} {sub : Str → Str → Option Bool} {w : WS} {x : Exn} {ρ : Env} {y : Str} {v : Option Nat} {r : List DCl} : (hnS (some false) sub T x ρ y v w r) = (hnd sub T x ρ r) := propext Iff.rfl
theorem z326 {T : DEnds} {ρ : Env} {v : Option Nat} {ρ2 : Env} : ((goneD v ρ2 T).nx ρ) = (okBack (offE v ρ2) (offE v ρ) ∧ T.nx (offE v ρ)) := propext Iff.rfl
theorem z327 {T : DEnds} {ρ : Env} {v : Option Nat} {ρ2 : Env} : ((goneD v ρ2 T).bk ρ) = (okBack (offE v ρ2) (offE v ρ) ∧ T.bk (offE v ρ)) := propext Iff.rfl
theorem z328 {T : DEnds} {ρ : Env} {v : Option Nat} {ρ2 : Env} : ((goneD v ρ2 T).ct ρ) = (okBack (offE v ρ2) (offE v ρ) ∧ T.ct (offE v ρ)) := propext Iff.rfl
theorem z329 {T : DEnds} {d : D} {n : Nat} {ρ : Env} {v : Option Nat} {ρ2 : Env} : ((goneD v ρ2 T).rt n d ρ) = (noX d = true ∧ okBack (offE v ρ2) (offE v ρ) ∧ T.rt n d (offE v ρ)) := propext Iff.rfl
theorem z330 {ρ : Env} : (offE none ρ) = (ρ) := by exact id rfl
theorem z331 {i : Nat} {ρ : Env} : (offE (some i) ρ) = (ρ.set i none) := by exact id rfl
theorem z332 {x : Exn} {ρ : Env} : (onE none x ρ) = (ρ) := by exact id rfl
theorem z333 {ds : List D} {i : Nat} {xn : Str} {ρ : Env} : (onE (some i) (xn, [], ds) ρ) = (ρ.set i none) := by exact id rfl
theorem z334 {ds : List D} {i : Nat} {ns : List Str} {xn : Str} {ρ : Env} {x1 : Str} : (onE (some i) (xn, x1 :: ns, ds) ρ) = (ρ.set i (some (0, .xr xn (x1 :: ns) ds))) := by exact id rfl
theorem z335  : (okBack [] []) = (True) := propext Iff.rfl
theorem z336 {ρ : Env} {s s2 : Slot} {ρ2 : Env} : (okBack (s :: ρ) (s2 :: ρ2)) = ((s2 = s ∨ noXs s2 = true) ∧ okBack ρ ρ2) := propext Iff.rfl
theorem z337  : (noXs none) = (true) := by exact id rfl
theorem z338 {d : D} {n : Nat} : (noXs (some (n, d))) = (noX d) := by exact id rfl
theorem z339  : (noX .non) = (true) := by exact id rfl
theorem z340  {c : Bool} : (noX (.bl c)) = (true) := by exact id rfl
theorem z341  {i : Int} : (noX (.int i)) = (true) := by exact id rfl
theorem z342 {xn : Str} : (noX (.str xn)) = (true) := by exact id rfl
theorem z343 {Q : Opd → Env → Prop} {ds : List D} {n : Nat} {ns : List Str} {xn : Str} {ρ : Env} {f : Str} : (xfS (some (some (n, .xr xn ns ds))) f ρ Q) = (atK ((ns.zip ds).lookup f) (kT0 Q ρ)) := propext Iff.rfl
theorem z344 {E : ED} {Q : Opd → Env → Prop} {i : Nat} {ρ : Env} {f : Str} : (wXf i f ρ Q E) = (xfS ρ[i]? f ρ Q) := by
  unfold wXf xfS
  cases ρ[i]? with
  | none => rfl
  | some s => cases s with
    | none => rfl
    | some p =>
      obtain ⟨n, q⟩ := p
      cases q <;> first | rfl | (rename_i C ns ds; show (match (ns.zip ds).lookup f with | some d => Q (.tm 0 d) ρ | none => False) = atK ((ns.zip ds).lookup f) (kT0 Q ρ); cases (ns.zip ds).lookup f <;> rfl)
theorem z345 {ds : List D} {ms : List Nat} {n : Nat} : (startE ms ds n) = (argE ms ds ++ List.replicate (n - ms.length) none) := by exact id rfl
theorem z346 {d : D} {ds : List D} {m : Nat} {ms : List Nat} : (argE (m :: ms) (d :: ds)) = (some (m, d) :: argE ms ds) := by exact id rfl
theorem z347 {ds : List D} : (argE [] ds) = ([]) := by exact id rfl
end Z

set_option Elab.async false
set_option linter.all false
set_option maxRecDepth 100000
set_option maxHeartbeats 4000000
/-! Dp20: loops and comprehensions in the machine's form; starts. -/
namespace Z
open PySem L2
theorem for_inv {t : Tgt} {b : WS} {T : DEnds} (I : List D → Env → Prop) {items : List D} {ρ : Env} (h0 : I items ρ) (hn : ∀ ρ, I [] ρ → T.nx ρ)
    (hc : ∀ x xs ρ (K : Env → Prop), I (x :: xs) ρ → (∀ ρ', I xs ρ' → K ρ') → t.asg 0 x ρ fun ρ1 => b (lpE T K) ρ1) : forL t b T items ρ := forL_inv I h0 hn hc
/-- with what is done so far -/
theorem for_inv2 {t : Tgt} {b : WS} {T : DEnds} {items : List D} {ρ : Env} (I : List D → List D → Env → Prop) (h0 : I [] items ρ) (hn : ∀ ρ, I items [] ρ → T.nx ρ)
    (hc : ∀ pre x xs ρ (K : Env → Prop), items = pre ++ x :: xs → I pre (x :: xs) ρ → (∀ ρ', I (pre ++ [x]) xs ρ' → K ρ') → t.asg 0 x ρ fun ρ1 => b (lpE T K) ρ1) : forL t b T items ρ := by
  suffices h : ∀ post pre ρ, items = pre ++ post → I pre post ρ → forL t b T post ρ from h items [] ρ rfl h0
  intro post
  induction post with
  | nil => intro pre ρ e h; rw [List.append_nil] at e; subst e; exact hn ρ h
  | cons x xs ih => intro pre ρ e h; exact hc pre x xs ρ _ e h fun ρ' h' => ih (pre ++ [x]) ρ' (by rw [e, List.append_assoc]; rfl) h'
theorem lc_map {t : Tgt} {vs : List Nat} {wt : WT} {we : WO} {k : List D → Env → Prop} (f : D → D) (P : D → Prop) {items acc : List D} {ρ : Env}
    (step : ∀ x acc (K : List D → Env → Prop), P x → acc.length < big → K (acc ++ [f x]) ρ → t.asg 0 x ρ (kLl acc vs wt we K))
    (hP : ∀ x ∈ items, P x) (hl : acc.length + items.length ≤ big) (hk : k (acc ++ items.map f) ρ) : lcL t vs wt we k items acc ρ := lcL_map f P step hP hl hk
theorem lc_fm {t : Tgt} {vs : List Nat} {wt : WT} {we : WO} {k : List D → Env → Prop} (f : D → Option D) (P : D → Prop) {items acc : List D} {ρ : Env}
    (step : ∀ x acc (K : List D → Env → Prop), P x → acc.length < big → (match f x with | some d => K (acc ++ [d]) ρ | none => K acc ρ) → t.asg 0 x ρ (kLl acc vs wt we K))
    (hP : ∀ x ∈ items, P x) (hl : acc.length + items.length ≤ big) (hk : k (acc ++ items.filterMap f) ρ) : lcL t vs wt we k items acc ρ := lcL_fm f P step hP hl hk
theorem lc_inv {t : Tgt} {vs : List Nat} {wt : WT} {we : WO} {k : List D → Env → Prop} (J : List D → List D → Env → Prop) {items acc : List D} {ρ : Env} (h0 : J items acc ρ) (hn : ∀ acc ρ, J [] acc ρ → k acc ρ)
    (hc : ∀ x xs acc ρ (K : List D → Env → Prop), J (x :: xs) acc ρ → (∀ acc' ρ', J xs acc' ρ' → K acc' ρ') → t.asg 0 x ρ (kLl acc vs wt we K)) : lcL t vs wt we k items acc ρ := lcL_inv J h0 hn hc
/-- while: an invariant with a measure -/
theorem wh_inv {c : WT} {b : WS} {T : DEnds} {ρ : Env} (I : Nat → Env → Prop) {m0 : Nat} (h0 : I m0 ρ) (hc : ∀ m ρ (K : Env → Prop), I m ρ → (∀ m' ρ', m' < m → I m' ρ' → K ρ') → c ρ (kWh b T K) T.ex) : wWhile c b T ρ :=
  ⟨I, ⟨m0, h0⟩, fun m ρ hi => hc m ρ _ hi fun m' _ lt h => ⟨m', lt, h⟩⟩
theorem okT_int : ("int" ∈ okTys) = True := by decide +kernel
theorem okT_bool : ("bool" ∈ okTys) = True := by decide +kernel
theorem okT_str : ("str" ∈ okTys) = True := by decide +kernel
theorem okT_list : ("list" ∈ okTys) = True := by decide +kernel
theorem okT_tuple : ("tuple" ∈ okTys) = True := by decide +kernel
theorem subI {i j : Int} {k : Nat → D → Prop} : intOp (fun _ _ => True) (fun i j => i - j) (.int i) (.int j) k = k 0 (.int (i - j)) := propext ⟨fun h => h.2, fun h => ⟨trivial, h⟩⟩
theorem divI {i j : Int} {k : Nat → D → Prop} : intOp CDiv (fun i j => i / j) (.int i) (.int j) k = (CDiv i j ∧ k 0 (.int (i / j))) := propext Iff.rfl
theorem modI {i j : Int} {k : Nat → D → Prop} : intOp (fun _ j => 0 < j) (fun i j => i % j) (.int i) (.int j) k = (0 < j ∧ k 0 (.int (i % j))) := propext Iff.rfl
theorem powI {i j : Int} {k : Nat → D → Prop} : intOp CPow (fun i j => i ^ j.toNat) (.int i) (.int j) k = (CPow i j ∧ k 0 (.int (i ^ j.toNat))) := propext Iff.rfl
theorem iteT {α : Type} {a b : α} : (if true = true then a else b) = a := if_pos rfl
theorem iteF {α : Type} {a b : α} : (if false = true then a else b) = b := if_neg (by decide)
end Z

set_option Elab.async false
set_option linter.all false
set_option maxRecDepth 100000
set_option maxHeartbeats 4000000
/-! the walk of the law samewindows_k03_nodes_and_longer_windows -/
namespace LK
open PySem PySem.Spec PyProof.Rows L2 Z
abbrev prg : Program := PySem.Challenge.pw_samewindows_k03_nodes_and_longer_windows
def top (i : Nat) : Stmt := prg.main.body.getD i (.Pass ⟨0, 0, 0, 0⟩)

def subL : List (Str × Str × Bool) := [("BadNumber", "BadNumber", true), ("BadNumber", "BadWindow", false), ("BadText", "BadNumber", false), ("BadText", "BadWindow", false), ("BadWindow", "BadNumber", false), ("BadWindow", "BadWindow", true), ("TooLarge", "BadNumber", false), ("TooLarge", "BadWindow", false)]
def subX (x y : Str) : Option Bool := (subL.find? fun t => t.1 == x && t.2.1 == y).map (·.2.2)
def n_is_int : List Str := ["value"]
def w_is_int : WS := wRet (wAnd (wS (on2V isiD) (w2 (wV 0) (wC (.ty "int")))) (wNot (wS (on2V isiD) (w2 (wV 0) (wC (.ty "bool"))))))
structure sp_is_int (ds : List D) (R : Nat → D → List D → Prop) (Ed : Exn → List D → Prop) : Prop where
  run : w_is_int (defEnds [0] ds R Ed) (startE [0] ds 1)

def n_check_number : List Str := ["value", "name", "low", "high"]
def w_check_number : WS := wSeq (wIfS (wNotT (wTru (wCall [0] sp_is_int (w1 (wV 0))))) (wRaise "BadNumber" ["name"] (w1 (wV 1))) (wNext)) (wSeq (wIfS (wOrT (wB (wS (on2V ltD) (w2 (wV 0) (wV 2)))) (wB (wS (on2V gtD) (w2 (wV 0) (wV 3))))) (wRaise "BadNumber" ["name"] (w1 (wV 1))) (wNext)) (wRet (wV 0)))
structure sp_check_number (ds : List D) (R : Nat → D → List D → Prop) (Ed : Exn → List D → Prop) : Prop where
  run : w_check_number (defEnds [0, 0, 0, 0] ds R Ed) (startE [0, 0, 0, 0] ds 4)

def n_is_letter : List Str := ["value"]
def w_is_letter : WS := wRet (wAnd (wCall [0] sp_is_int (w1 (wV 0))) (wChain (fun i j => decide (i ≤ j)) (fun i j => decide (i ≤ j)) (wC (.int 0)) (wV 0) (wC (.int 99))))
structure sp_is_letter (ds : List D) (R : Nat → D → List D → Prop) (Ed : Exn → List D → Prop) : Prop where
  run : w_is_letter (defEnds [0] ds R Ed) (startE [0] ds 1)

def n_row_of : List Str := ["value"]
def w_row_of : WS := wSeq (wIfS (wTru (wS (on2V isiD) (w2 (wV 0) (wTup (w2 (wC (.ty "list")) (wC (.ty "tuple"))))))) (wRet (wE (on1 tupD) (w1 (wV 0)))) (wNext)) (wRet (wC .non))
structure sp_row_of (ds : List D) (R : Nat → D → List D → Prop) (Ed : Exn → List D → Prop) : Prop where
  run : w_row_of (defEnds [0] ds R Ed) (startE [0] ds 1)

def n_check_text : List Str := ["text", "letters", "place", "letter"]
def w_check_text : WS := wSeq (wAsg (.nm 1) (wCall [0] sp_row_of (w1 (wV 0)))) (wSeq (wIfS (wB (wS (on2V isD) (w2 (wV 1) (wC .non)))) (wRaise "BadText" ["place"] (w1 (wS (on1V negD) (w1 (wC (.int 1)))))) (wNext)) (wSeq (wFor (.tp [2, 3]) (wIEt (wV 1)) (wIfS (wNotT (wTru (wCall [0] sp_is_letter (w1 (wV 3))))) (wRaise "BadText" ["place"] (w1 (wV 2))) (wNext))) (wSeq (wIfS (wB (wS (on2V gtD) (w2 (wS (on1V lenD) (w1 (wV 1))) (wC (.int 60))))) (wRaise "TooLarge" ["name", "most"] (w2 (wC (.str "letters")) (wC (.int 60)))) (wNext)) (wRet (wV 1)))))
structure sp_check_text (ds : List D) (R : Nat → D → List D → Prop) (Ed : Exn → List D → Prop) : Prop where
  run : w_check_text (defEnds [0] ds R Ed) (startE [0] ds 4)

def n_signs_of : List Str := ["text"]
def w_signs_of : WS := wRet (wE (on2 addD) (w2 (wCall [0] sp_check_text (w1 (wV 0))) (wTup (w1 (wC (.int (-2)))))))
structure sp_signs_of (ds : List D) (R : Nat → D → List D → Prop) (Ed : Exn → List D → Prop) : Prop where
  run : w_signs_of (defEnds [0] ds R Ed) (startE [0] ds 1)

def n__node : List Str := ["signs", "length", "behind"]
def w__node : WS := wSeq (wIfS (wB (wS (on2V eqD) (w2 (wV 2) (wS (on1V lenD) (w1 (wV 0)))))) (wRet (wTup (w1 (wC (.int (-1)))))) (wNext)) (wRet (wE rSlL (w2 (wE (on2 addD) (w2 (wTup (w1 (wC (.int (-1))))) (wE rSlH (w2 (wV 0) (wInt (wV 2)))))) (wInt (wE (on2 subD) (w2 (wC (.int 1)) (wV 1)))))))
structure sp__node (ds : List D) (R : Nat → D → List D → Prop) (Ed : Exn → List D → Prop) : Prop where
  run : w__node (defEnds [0, 0, 0] ds R Ed) (startE [0, 0, 0] ds 3)

def n_node_behind : List Str := ["text", "length", "behind", "signs"]
def w_node_behind : WS := wSeq (wAsg (.nm 3) (wCall [0] sp_signs_of (w1 (wV 0)))) (wSeq (wExpr (wCall [0, 0, 0, 0] sp_check_number (wCons (wV 1) (wCons (wC (.str "length")) (wCons (wC (.int 2)) (wCons (wC (.int 70)) (wNil))))))) (wSeq (wExpr (wCall [0, 0, 0, 0] sp_check_number (wCons (wV 2) (wCons (wC (.str "behind")) (wCons (wC (.int 0)) (wCons (wS (on1V lenD) (w1 (wV 3))) (wNil))))))) (wRet (wCall [0, 0, 0] sp__node (wCons (wV 3) (wCons (wV 1) (wCons (wV 2) (wNil))))))))
structure sp_node_behind (ds : List D) (R : Nat → D → List D → Prop) (Ed : Exn → List D → Prop) : Prop where
  run : w_node_behind (defEnds [0, 0, 0] ds R Ed) (startE [0, 0, 0] ds 4)

def n_window_of : List Str := ["text", "length", "sign", "signs"]
def w_window_of : WS := wSeq (wAsg (.nm 3) (wCall [0] sp_signs_of (w1 (wV 0)))) (wSeq (wExpr (wCall [0, 0, 0, 0] sp_check_number (wCons (wV 1) (wCons (wC (.str "length")) (wCons (wC (.int 2)) (wCons (wC (.int 70)) (wNil))))))) (wSeq (wExpr (wCall [0, 0, 0, 0] sp_check_number (wCons (wV 2) (wCons (wC (.str "sign")) (wCons (wC (.int 1)) (wCons (wS (on1V lenD) (w1 (wV 3))) (wNil))))))) (wRet (wE (on2 addD) (w2 (wCall [0, 0, 0] sp__node (wCons (wV 3) (wCons (wV 1) (wCons (wE (on2 subD) (w2 (wV 2) (wC (.int 1)))) (wNil))))) (wTup (w1 (wE (on2 ixD) (w2 (wV 3) (wE (on2 subD) (w2 (wV 2) (wC (.int 1)))))))))))))
structure sp_window_of (ds : List D) (R : Nat → D → List D → Prop) (Ed : Exn → List D → Prop) : Prop where
  run : w_window_of (defEnds [0, 0, 0] ds R Ed) (startE [0, 0, 0] ds 4)

def n_windows : List Str := ["text", "length", "signs", "at"]
def w_windows : WS := wSeq (wAsg (.nm 2) (wCall [0] sp_signs_of (w1 (wV 0)))) (wSeq (wExpr (wCall [0, 0, 0, 0] sp_check_number (wCons (wV 1) (wCons (wC (.str "length")) (wCons (wC (.int 2)) (wCons (wC (.int 70)) (wNil))))))) (wRet (wE (on1 tupD) (w1 (wLc (.nm 3) [3] (wIR1 (w1 (wS (on1V lenD) (w1 (wV 2))))) (wYes) (wE (on2 addD) (w2 (wCall [0, 0, 0] sp__node (wCons (wV 2) (wCons (wV 1) (wCons (wV 3) (wNil))))) (wTup (w1 (wE (on2 ixD) (w2 (wV 2) (wV 3))))))))))))
structure sp_windows (ds : List D) (R : Nat → D → List D → Prop) (Ed : Exn → List D → Prop) : Prop where
  run : w_windows (defEnds [0, 0] ds R Ed) (startE [0, 0] ds 4)

def n_fits : List Str := ["window", "length", "tail", "sign"]
def w_fits : WS := wSeq (wExpr (wCall [0, 0, 0, 0] sp_check_number (wCons (wV 1) (wCons (wC (.str "length")) (wCons (wC (.int 2)) (wCons (wC (.int 70)) (wNil))))))) (wSeq (wIfS (wOrT (wNotT (wTru (wS (on2V isiD) (w2 (wV 0) (wC (.ty "tuple")))))) (wB (wS (on2V ltD) (w2 (wS (on1V lenD) (w1 (wV 0))) (wC (.int 2)))))) (wRet (wC (.bl false))) (wNext)) (wSeq (wIfS (wNotT (wTru (wS (on1V allD) (w1 (wLc (.nm 3) [3] (wIT (wV 0)) (wYes) (wCall [0] sp_is_int (w1 (wV 3)))))))) (wRet (wC (.bl false))) (wNext)) (wSeq (wIfS (wAndT (wB (wS (on2V neD) (w2 (wE (on2 ixD) (w2 (wV 0) (wS (on1V negD) (w1 (wC (.int 1)))))) (wC (.int (-2)))))) (wNotT (wTru (wCall [0] sp_is_letter (w1 (wE (on2 ixD) (w2 (wV 0) (wS (on1V negD) (w1 (wC (.int 1))))))))))) (wRet (wC (.bl false))) (wNext)) (wSeq (wAsg (.nm 2) (wE rSlH (w2 (wV 0) (wInt (wS (on1V negD) (w1 (wC (.int 1)))))))) (wSeq (wIfS (wB (wS (on2V eqD) (w2 (wE (on2 ixD) (w2 (wV 2) (wC (.int 0)))) (wC (.int (-1)))))) (wRet (wAnd (wS (on2V ltD) (w2 (wS (on1V lenD) (w1 (wV 2))) (wV 1))) (wS (on1V allD) (w1 (wLc (.nm 3) [3] (wIT (wE rSlL (w2 (wV 2) (wInt (wC (.int 1)))))) (wYes) (wCall [0] sp_is_letter (w1 (wV 3)))))))) (wNext)) (wRet (wAnd (wS (on2V eqD) (w2 (wS (on1V lenD) (w1 (wV 2))) (wE (on2 subD) (w2 (wV 1) (wC (.int 1)))))) (wS (on1V allD) (w1 (wLc (.nm 3) [3] (wIT (wV 2)) (wYes) (wCall [0] sp_is_letter (w1 (wV 3)))))))))))))
structure sp_fits (ds : List D) (R : Nat → D → List D → Prop) (Ed : Exn → List D → Prop) : Prop where
  run : w_fits (defEnds [0, 0] ds R Ed) (startE [0, 0] ds 4)

def n_tail_of : List Str := ["window", "length"]
def w_tail_of : WS := wSeq (wIfS (wNotT (wTru (wCall [0, 0] sp_fits (w2 (wV 0) (wV 1))))) (wRaise "BadWindow" ["place"] (w1 (wS (on1V negD) (w1 (wC (.int 1)))))) (wNext)) (wRet (wE rSlH (w2 (wV 0) (wInt (wS (on1V negD) (w1 (wC (.int 1))))))))
structure sp_tail_of (ds : List D) (R : Nat → D → List D → Prop) (Ed : Exn → List D → Prop) : Prop where
  run : w_tail_of (defEnds [0, 0] ds R Ed) (startE [0, 0] ds 2)

def n_head_of : List Str := ["window", "length"]
def w_head_of : WS := wSeq (wIfS (wNotT (wTru (wCall [0, 0] sp_fits (w2 (wV 0) (wV 1))))) (wRaise "BadWindow" ["place"] (w1 (wS (on1V negD) (w1 (wC (.int 1)))))) (wNext)) (wSeq (wIfS (wB (wS (on2V eqD) (w2 (wE (on2 ixD) (w2 (wV 0) (wS (on1V negD) (w1 (wC (.int 1)))))) (wC (.int (-2)))))) (wRet (wTup (w1 (wC (.int (-1)))))) (wNext)) (wRet (wE rSlL (w2 (wV 0) (wInt (wE (on2 subD) (w2 (wC (.int 1)) (wV 1))))))))
structure sp_head_of (ds : List D) (R : Nat → D → List D → Prop) (Ed : Exn → List D → Prop) : Prop where
  run : w_head_of (defEnds [0, 0] ds R Ed) (startE [0, 0] ds 2)

def n_cut_window : List Str := ["window", "length"]
def w_cut_window : WS := wSeq (wExpr (wCall [0, 0, 0, 0] sp_check_number (wCons (wV 1) (wCons (wC (.str "length")) (wCons (wC (.int 2)) (wCons (wC (.int 69)) (wNil))))))) (wSeq (wIfS (wNotT (wTru (wCall [0, 0] sp_fits (w2 (wV 0) (wE (on2 addD) (w2 (wV 1) (wC (.int 1)))))))) (wRaise "BadWindow" ["place"] (w1 (wS (on1V negD) (w1 (wC (.int 1)))))) (wNext)) (wSeq (wIfS (wB (wS (on2V eqD) (w2 (wS (on1V lenD) (w1 (wV 0))) (wE (on2 addD) (w2 (wV 1) (wC (.int 1))))))) (wRet (wE rSlL (w2 (wV 0) (wInt (wC (.int 1)))))) (wNext)) (wRet (wV 0))))
structure sp_cut_window (ds : List D) (R : Nat → D → List D → Prop) (Ed : Exn → List D → Prop) : Prop where
  run : w_cut_window (defEnds [0, 0] ds R Ed) (startE [0, 0] ds 2)

def n__law_draws : List Str := ["script", "draws", "at", "cell", "turn"]
def w__law_draws : WS := wSeq (wAsg (.nm 1) (wLst (wNil))) (wSeq (wFor (.nm 2) (wIR1 (w1 (wS (on2V min2D) (w2 (wS (on1V lenD) (w1 (wV 0))) (wC (.int 63)))))) (wSeq (wAsg (.nm 3) (wS (on1V int1D) (w1 (wE (on2 ixD) (w2 (wV 0) (wV 2)))))) (wSeq (wIfS (wB (wS (on2V ltD) (w2 (wV 3) (wC (.int 0))))) (wAsg (.nm 3) (wE (on2 subD) (w2 (wC (.int 1)) (wV 3)))) (wNext)) (wFor (.nm 4) (wIR1 (w1 (wC (.int 48)))) (wIfS (wB (wS (on2V gtD) (w2 (wV 3) (wC (.int 0))))) (wSeq (wExpr (wMt 1 appD (w1 (wE (on2 modD) (w2 (wS (on1V int1D) (w1 (wV 3))) (wC (.int 16))))))) (wAsg (.nm 3) (wE (on2 divD) (w2 (wV 3) (wC (.int 16)))))) (wNext)))))) (wSeq (wExpr (wMt0 1 revD)) (wRet (wV 1))))
structure sp__law_draws (ds : List D) (R : Nat → D → List D → Prop) (Ed : Exn → List D → Prop) : Prop where
  run : w__law_draws (defEnds [0] ds R Ed) (startE [0] ds 5)

def n__law_take : List Str := ["draws", "many"]
def w__law_take : WS := wSeq (wIfS (wB (wS (on2V eqD) (w2 (wS (on1V lenD) (w1 (wV 0))) (wC (.int 0))))) (wRet (wC (.int 0))) (wNext)) (wRet (wE (on2 modD) (w2 (wS (on1V int1D) (w1 (wMt0 0 popD))) (wV 1))))
structure sp__law_take (ds : List D) (R : Nat → D → List D → Prop) (Ed : Exn → List D → Prop) : Prop where
  run : w__law_take (defEnds [1, 0] ds R Ed) (startE [1, 0] ds 2)

def n__law_int : List Str := ["value"]
def w__law_int : WS := wRet (wAnd (wS (on2V isiD) (w2 (wV 0) (wC (.ty "int")))) (wNot (wS (on2V isiD) (w2 (wV 0) (wC (.ty "bool"))))))
structure sp__law_int (ds : List D) (R : Nat → D → List D → Prop) (Ed : Exn → List D → Prop) : Prop where
  run : w__law_int (defEnds [0] ds R Ed) (startE [0] ds 1)

def n__law_letters : List Str := ["draws", "many", "step", "start", "place"]
def w__law_letters : WS := wSeq (wAsg (.nm 2) (wE (on2 addD) (w2 (wC (.int 1)) (wE (on2 mulD) (w2 (wC (.int 2)) (wCall [1, 0] sp__law_take (w2 (wV 0) (wC (.int 16))))))))) (wSeq (wIfS (wB (wS (on2V eqD) (w2 (wE (on2 modD) (w2 (wV 2) (wC (.int 5)))) (wC (.int 0))))) (wAsg (.nm 2) (wE (on2 addD) (w2 (wV 2) (wC (.int 2))))) (wNext)) (wSeq (wAsg (.nm 3) (wE (on2 addD) (w2 (wE (on2 mulD) (w2 (wCall [1, 0] sp__law_take (w2 (wV 0) (wC (.int 16)))) (wC (.int 6)))) (wCall [1, 0] sp__law_take (w2 (wV 0) (wC (.int 10))))))) (wRet (wLc (.nm 4) [4] (wIR1 (w1 (wV 1))) (wYes) (wE (on2 modD) (w2 (wS (on1V int1D) (w1 (wE (on2 addD) (w2 (wV 3) (wE (on2 mulD) (w2 (wV 2) (wV 4))))))) (wC (.int 100))))))))
structure sp__law_letters (ds : List D) (R : Nat → D → List D → Prop) (Ed : Exn → List D → Prop) : Prop where
  run : w__law_letters (defEnds [1, 0] ds R Ed) (startE [1, 0] ds 5)

def n__law_row : List Str := ["draws", "pool", "most", "turn"]
def w__law_row : WS := wRet (wLc (.nm 3) [3] (wIR1 (w1 (wCall [1, 0] sp__law_take (w2 (wV 0) (wE (on2 addD) (w2 (wV 2) (wC (.int 1)))))))) (wYes) (wE (on2 ixD) (w2 (wV 1) (wCall [1, 0] sp__law_take (w2 (wV 0) (wS (on1V lenD) (w1 (wV 1))))))))
structure sp__law_row (ds : List D) (R : Nat → D → List D → Prop) (Ed : Exn → List D → Prop) : Prop where
  run : w__law_row (defEnds [1, 0, 0] ds R Ed) (startE [1, 0, 0] ds 4)

def n__law_chain : List Str := ["many", "row", "node"]
def w__law_chain : WS := wSeq (wAsg (.nm 1) (wLst (w1 (wC (.int 0))))) (wSeq (wFor (.nm 2) (wIR2 (w2 (wC (.int 1)) (wV 0))) (wAsg (.nm 1) (wE (on2 addD) (w2 (wV 1) (wLst (w2 (wV 2) (wE (on2 subD) (w2 (wV 2) (wC (.int 1)))))))))) (wRet (wE (on2 addD) (w2 (wV 1) (wLst (w1 (wE (on2 subD) (w2 (wV 0) (wC (.int 1))))))))))
structure sp__law_chain (ds : List D) (R : Nat → D → List D → Prop) (Ed : Exn → List D → Prop) : Prop where
  run : w__law_chain (defEnds [0] ds R Ed) (startE [0] ds 3)

def n__law_parted : List Str := ["row", "first", "parted", "place"]
def w__law_parted : WS := wSeq (wAsg (.nm 2) (wLst (wNil))) (wSeq (wFor (.nm 3) (wIR1 (w1 (wS (on1V lenD) (w1 (wV 0))))) (wAsg (.nm 2) (wE (on2 addD) (w2 (wV 2) (wLst (w2 (wE (on2 ixD) (w2 (wV 0) (wV 3))) (wE (on2 addD) (w2 (wV 1) (wV 3))))))))) (wRet (wV 2)))
structure sp__law_parted (ds : List D) (R : Nat → D → List D → Prop) (Ed : Exn → List D → Prop) : Prop where
  run : w__law_parted (defEnds [0, 0] ds R Ed) (startE [0, 0] ds 4)

def n__law_closed : List Str := ["word", "many", "nodes", "row", "turn"]
def w__law_closed : WS := wSeq (wAsg (.nm 2) (wLR1 (wV 1))) (wSeq (wIfS (wB (wS (on2V eqD) (w2 (wV 0) (wC (.int 0))))) (wAsg (.nm 3) (wCall [0] sp__law_chain (w1 (wV 1)))) (wIfS (wB (wS (on2V eqD) (w2 (wV 0) (wC (.int 1))))) (wAsg (.nm 3) (wE (on2 addD) (w2 (wV 2) (wV 2)))) (wIfS (wB (wS (on2V eqD) (w2 (wV 0) (wC (.int 2))))) (wSeq (wAsg (.nm 3) (wLst (wNil))) (wFor (.nm 4) (wIR1 (w1 (wE (on2 divD) (w2 (wV 1) (wC (.int 2)))))) (wAsg (.nm 3) (wE (on2 addD) (w2 (wV 3) (wLst (wCons (wE (on2 mulD) (w2 (wC (.int 2)) (wV 4))) (wCons (wE (on2 addD) (w2 (wE (on2 mulD) (w2 (wC (.int 2)) (wV 4))) (wC (.int 1)))) (wCons (wE (on2 mulD) (w2 (wC (.int 2)) (wV 4))) (wCons (wE (on2 addD) (w2 (wE (on2 mulD) (w2 (wC (.int 2)) (wV 4))) (wC (.int 1)))) (wNil))))))))))) (wAsg (.nm 3) (wLc (.nm 4) [4] (wIR1 (w1 (wE (on2 addD) (w2 (wV 1) (wC (.int 1)))))) (wYes) (wC (.int 0))))))) (wRet (wCall [0, 0] sp__law_parted (w2 (wV 3) (wV 1)))))
structure sp__law_closed (ds : List D) (R : Nat → D → List D → Prop) (Ed : Exn → List D → Prop) : Prop where
  run : w__law_closed (defEnds [0, 0] ds R Ed) (startE [0, 0] ds 5)

def n__law_made : List Str := ["draws", "word", "length", "pool", "run", "row", "x", "y", "rows", "names", "start", "stop", "at", "turn", "place"]
def w__law_made : WS := wSeq (wIfS (wB (wS (on2V eqD) (w2 (wV 1) (wC (.int 1))))) (wSeq (wAsg (.nm 4) (wE (on2 addD) (w2 (wC (.int 1)) (wCall [1, 0] sp__law_take (w2 (wV 0) (wC (.int 4))))))) (wRet (wE (on2 addD) (w2 (wE (on2 addD) (w2 (wLc (.nm 13) [13] (wIR1 (w1 (wV 4))) (wYes) (wE (on2 ixD) (w2 (wV 3) (wC (.int 0))))) (wLst (w1 (wE (on2 ixD) (w2 (wV 3) (wS (on1V negD) (w1 (wC (.int 1)))))))))) (wLc (.nm 13) [13] (wIR1 (w1 (wCall [1, 0] sp__law_take (w2 (wV 0) (wC (.int 5)))))) (wYes) (wE (on2 ixD) (w2 (wV 3) (wC (.int 0))))))))) (wNext)) (wSeq (wIfS (wB (wS (on2V eqD) (w2 (wV 1) (wC (.int 2))))) (wSeq (wAsg (.nm 5) (wE (on2 addD) (w2 (wCall [1, 0, 0] sp__law_row (wCons (wV 0) (wCons (wV 3) (wCons (wC (.int 2)) (wNil))))) (wLst (w1 (wE (on2 ixD) (w2 (wV 3) (wC (.int 0))))))))) (wSeq (wAsg (.nm 5) (wE (on2 addD) (w2 (wE (on2 mulD) (w2 (wV 5) (wE (on2 addD) (w2 (wC (.int 2)) (wCall [1, 0] sp__law_take (w2 (wV 0) (wC (.int 3)))))))) (wE rSlH (w2 (wV 5) (wInt (wCall [1, 0] sp__law_take (w2 (wV 0) (wC (.int 3)))))))))) (wRet (wE (on2 addD) (w2 (wE (on2 addD) (w2 (wCall [1, 0, 0] sp__law_row (wCons (wV 0) (wCons (wV 3) (wCons (wC (.int 1)) (wNil))))) (wV 5))) (wCall [1, 0, 0] sp__law_row (wCons (wV 0) (wCons (wV 3) (wCons (wC (.int 1)) (wNil)))))))))) (wNext)) (wSeq (wIfS (wB (wS (on2V eqD) (w2 (wV 1) (wC (.int 3))))) (wSeq (wAsg (.nm 6) (wE (on2 mulD) (w2 (wLst (w1 (wE (on2 ixD) (w2 (wV 3) (wC (.int 0)))))) (wE (on2 subD) (w2 (wV 2) (wC (.int 1))))))) (wSeq (wAsg (.nm 7) (wE (on2 addD) (w2 (wE (on2 mulD) (w2 (wLst (w1 (wE (on2 ixD) (w2 (wV 3) (wS (on1V negD) (w1 (wC (.int 1)))))))) (wE (on2 subD) (w2 (wV 2) (wC (.int 2)))))) (wLst (w1 (wCall [1, 0] sp__law_take (w2 (wV 0) (wC (.int 16))))))))) (wSeq (wAsg (.nm 8) (wLc (.nm 13) [13] (wIR1 (w1 (wC (.int 3)))) (wYes) (wCall [1, 0, 0] sp__law_row (wCons (wV 0) (wCons (wV 3) (wCons (wC (.int 2)) (wNil))))))) (wRet (wE (on2 addD) (w2 (wE (on2 addD) (w2 (wE (on2 addD) (w2 (wE (on2 addD) (w2 (wE (on2 addD) (w2 (wE (on2 addD) (w2 (wE (on2 addD) (w2 (wV 6) (wE (on2 ixD) (w2 (wV 8) (wC (.int 0)))))) (wV 7))) (wE (on2 ixD) (w2 (wV 8) (wC (.int 1)))))) (wV 6))) (wE (on2 ixD) (w2 (wV 8) (wC (.int 2)))))) (wV 7))) (wCall [1, 0, 0] sp__law_row (wCons (wV 0) (wCons (wV 3) (wCons (wC (.int 1)) (wNil))))))))))) (wNext)) (wSeq (wIfS (wB (wS (on2V eqD) (w2 (wV 1) (wC (.int 4))))) (wSeq (wAsg (.nm 6) (wE (on2 addD) (w2 (wCall [1, 0, 0] sp__law_row (wCons (wV 0) (wCons (wV 3) (wCons (wC (.int 1)) (wNil))))) (wE (on2 mulD) (w2 (wLst (w1 (wE (on2 ixD) (w2 (wV 3) (wC (.int 0)))))) (wE (on2 subD) (w2 (wV 2) (wC (.int 1))))))))) (wSeq (wAsg (.nm 8) (wLc (.nm 13) [13] (wIR1 (w1 (wC (.int 3)))) (wYes) (wCall [1, 0, 0] sp__law_row (wCons (wV 0) (wCons (wV 3) (wCons (wC (.int 2)) (wNil))))))) (wSeq (wIfS (wB (wS (on2V eqD) (w2 (wCall [1, 0] sp__law_take (w2 (wV 0) (wC (.int 2)))) (wC (.int 1))))) (wStore 8 (wC (.int 1)) (wE (on2 ixD) (w2 (wV 8) (wC (.int 0))))) (wNext)) (wRet (wE (on2 addD) (w2 (wE (on2 addD) (w2 (wE (on2 addD) (w2 (wE (on2 addD) (w2 (wE (on2 addD) (w2 (wE (on2 addD) (w2 (wV 6) (wE (on2 ixD) (w2 (wV 8) (wC (.int 0)))))) (wV 6))) (wE (on2 ixD) (w2 (wV 8) (wC (.int 1)))))) (wV 6))) (wE (on2 ixD) (w2 (wV 8) (wC (.int 2)))))) (wV 6))))))) (wNext)) (wSeq (wIfS (wB (wS (on2V leD) (w2 (wV 1) (wC (.int 8))))) (wSeq (wAsg (.nm 5) (wCall [0, 0] sp__law_closed (w2 (wE (on2 subD) (w2 (wV 1) (wC (.int 5)))) (wE (on2 addD) (w2 (wC (.int 2)) (wCall [1, 0] sp__law_take (w2 (wV 0) (wC (.int 3))))))))) (wSeq (wAsg (.nm 9) (wCall [1, 0] sp__law_letters (w2 (wV 0) (wC (.int 24))))) (wRet (wLc (.nm 14) [14] (wIL (wV 5)) (wYes) (wE (on2 ixD) (w2 (wV 9) (wV 14))))))) (wNext)) (wSeq (wAsg (.nm 5) (wE (on2 addD) (w2 (wCall [1, 0, 0] sp__law_row (wCons (wV 0) (wCons (wV 3) (wCons (wC (.int 5)) (wNil))))) (wLst (w1 (wE (on2 ixD) (w2 (wV 3) (wC (.int 0))))))))) (wSeq (wAsg (.nm 10) (wCall [1, 0] sp__law_take (w2 (wV 0) (wS (on1V lenD) (w1 (wV 5)))))) (wSeq (wAsg (.nm 11) (wE (on2 addD) (w2 (wE (on2 addD) (w2 (wV 10) (wC (.int 1)))) (wCall [1, 0] sp__law_take (w2 (wV 0) (wE (on2 subD) (w2 (wS (on1V lenD) (w1 (wV 5))) (wV 10)))))))) (wSeq (wAsg (.nm 12) (wCall [1, 0] sp__law_take (w2 (wV 0) (wE (on2 addD) (w2 (wS (on1V lenD) (w1 (wV 5))) (wC (.int 1))))))) (wRet (wE (on2 addD) (w2 (wE (on2 addD) (w2 (wE rSlH (w2 (wV 5) (wInt (wV 12)))) (wE rSl2 (wCons (wV 5) (w2 (wInt (wV 10)) (wInt (wV 11))))))) (wE rSlL (w2 (wV 5) (wInt (wV 12)))))))))))))))
structure sp__law_made (ds : List D) (R : Nat → D → List D → Prop) (Ed : Exn → List D → Prop) : Prop where
  run : w__law_made (defEnds [1, 0, 0, 0] ds R Ed) (startE [1, 0, 0, 0] ds 15)

def n__law_text : List Str := ["draws", "length", "word", "pool", "one", "other", "at"]
def w__law_text : WS := wSeq (wAsg (.nm 2) (wCall [1, 0] sp__law_take (w2 (wV 0) (wC (.int 11))))) (wSeq (wAsg (.nm 3) (wCall [1, 0] sp__law_letters (w2 (wV 0) (wE (on2 addD) (w2 (wC (.int 1)) (wCall [1, 0] sp__law_take (w2 (wV 0) (wC (.int 4))))))))) (wSeq (wIfS (wB (wS (on2V eqD) (w2 (wV 2) (wC (.int 0))))) (wRet (wCall [1, 0, 0] sp__law_row (wCons (wV 0) (wCons (wV 3) (wCons (wC (.int 8)) (wNil)))))) (wNext)) (wSeq (wIfS (wB (wS (on2V eqD) (w2 (wV 2) (wC (.int 10))))) (wSeq (wAsg (.nm 4) (wCall [1, 0, 0, 0] sp__law_made (wCons (wV 0) (wCons (wE (on2 addD) (w2 (wC (.int 3)) (wCall [1, 0] sp__law_take (w2 (wV 0) (wC (.int 7)))))) (wCons (wV 1) (wCons (wV 3) (wNil))))))) (wSeq (wAsg (.nm 5) (wCall [1, 0, 0, 0] sp__law_made (wCons (wV 0) (wCons (wE (on2 addD) (w2 (wC (.int 3)) (wCall [1, 0] sp__law_take (w2 (wV 0) (wC (.int 7)))))) (wCons (wV 1) (wCons (wV 3) (wNil))))))) (wSeq (wAsg (.nm 6) (wCall [1, 0] sp__law_take (w2 (wV 0) (wE (on2 addD) (w2 (wS (on1V lenD) (w1 (wV 4))) (wC (.int 1))))))) (wRet (wE rSlH (w2 (wE (on2 addD) (w2 (wE (on2 addD) (w2 (wE rSlH (w2 (wV 4) (wInt (wV 6)))) (wV 5))) (wE rSlL (w2 (wV 4) (wInt (wV 6)))))) (wInt (wC (.int 14))))))))) (wNext)) (wRet (wE rSlH (w2 (wCall [1, 0, 0, 0] sp__law_made (wCons (wV 0) (wCons (wV 2) (wCons (wV 1) (wCons (wV 3) (wNil)))))) (wInt (wC (.int 14)))))))))
structure sp__law_text (ds : List D) (R : Nat → D → List D → Prop) (Ed : Exn → List D → Prop) : Prop where
  run : w__law_text (defEnds [1, 0] ds R Ed) (startE [1, 0] ds 7)

def n__law_windows : List Str := ["text", "length", "signs", "letter", "at"]
def w__law_windows : WS := wSeq (wAsg (.nm 2) (wE (on2 addD) (w2 (wE (on2 addD) (w2 (wLst (w1 (wS (on1V negD) (w1 (wC (.int 1)))))) (wLc (.nm 3) [3] (wIL (wV 0)) (wYes) (wV 3)))) (wLst (w1 (wS (on1V negD) (w1 (wC (.int 2))))))))) (wRet (wLc (.nm 4) [4] (wIR2 (w2 (wC (.int 1)) (wS (on1V lenD) (w1 (wV 2))))) (wYes) (wE (on1 tupD) (w1 (wE rSl2 (wCons (wV 2) (w2 (wInt (wS (on2V max2D) (w2 (wC (.int 0)) (wE (on2 addD) (w2 (wE (on2 subD) (w2 (wV 4) (wV 1))) (wC (.int 1))))))) (wInt (wE (on2 addD) (w2 (wV 4) (wC (.int 1))))))))))))
structure sp__law_windows (ds : List D) (R : Nat → D → List D → Prop) (Ed : Exn → List D → Prop) : Prop where
  run : w__law_windows (defEnds [0, 0] ds R Ed) (startE [0, 0] ds 5)

def n__law_head : List Str := ["window", "length"]
def w__law_head : WS := wSeq (wIfS (wB (wS (on2V eqD) (w2 (wE (on2 ixD) (w2 (wV 0) (wS (on1V negD) (w1 (wC (.int 1)))))) (wS (on1V negD) (w1 (wC (.int 2))))))) (wRet (wTup (w1 (wS (on1V negD) (w1 (wC (.int 1))))))) (wNext)) (wRet (wE rSlL (w2 (wV 0) (wInt (wS (on2V max2D) (w2 (wC (.int 0)) (wE (on2 addD) (w2 (wE (on2 subD) (w2 (wS (on1V lenD) (w1 (wV 0))) (wV 1))) (wC (.int 1))))))))))
structure sp__law_head (ds : List D) (R : Nat → D → List D → Prop) (Ed : Exn → List D → Prop) : Prop where
  run : w__law_head (defEnds [0, 0] ds R Ed) (startE [0, 0] ds 2)

def n__law_node : List Str := ["text", "length", "behind", "signs", "letter"]
def w__law_node : WS := wSeq (wIfS (wB (wS (on2V eqD) (w2 (wV 2) (wE (on2 addD) (w2 (wS (on1V lenD) (w1 (wV 0))) (wC (.int 1))))))) (wRet (wTup (w1 (wS (on1V negD) (w1 (wC (.int 1))))))) (wNext)) (wSeq (wAsg (.nm 3) (wE (on2 addD) (w2 (wLst (w1 (wS (on1V negD) (w1 (wC (.int 1)))))) (wLc (.nm 4) [4] (wIL (wE rSlH (w2 (wV 0) (wInt (wV 2))))) (wYes) (wV 4))))) (wRet (wE (on1 tupD) (w1 (wE rSlL (w2 (wV 3) (wInt (wS (on2V max2D) (w2 (wC (.int 0)) (wE (on2 subD) (w2 (wE (on2 addD) (w2 (wV 2) (wC (.int 2)))) (wV 1))))))))))))
structure sp__law_node (ds : List D) (R : Nat → D → List D → Prop) (Ed : Exn → List D → Prop) : Prop where
  run : w__law_node (defEnds [0, 0, 0] ds R Ed) (startE [0, 0, 0] ds 5)

def n__law_due_fits : List Str := ["value", "length", "body", "sign"]
def w__law_due_fits : WS := wSeq (wIfS (wOrT (wNotT (wTru (wS (on2V isiD) (w2 (wV 0) (wC (.ty "tuple")))))) (wB (wS (on2V ltD) (w2 (wS (on1V lenD) (w1 (wV 0))) (wC (.int 2)))))) (wRet (wC (.bl false))) (wNext)) (wSeq (wIfS (wB (wS (on2V gtD) (w2 (wS (on1V lenD) (w1 (wLc (.nm 3) [3] (wIT (wV 0)) (wNotT (wTru (wCall [0] sp__law_int (w1 (wV 3))))) (wV 3)))) (wC (.int 0))))) (wRet (wC (.bl false))) (wNext)) (wSeq (wIfS (wAndT (wB (wS (on2V neD) (w2 (wE (on2 ixD) (w2 (wV 0) (wS (on1V negD) (w1 (wC (.int 1)))))) (wS (on1V negD) (w1 (wC (.int 2))))))) (wOrT (wB (wS (on2V ltD) (w2 (wE (on2 ixD) (w2 (wV 0) (wS (on1V negD) (w1 (wC (.int 1)))))) (wC (.int 0))))) (wB (wS (on2V gtD) (w2 (wE (on2 ixD) (w2 (wV 0) (wS (on1V negD) (w1 (wC (.int 1)))))) (wC (.int 99))))))) (wRet (wC (.bl false))) (wNext)) (wSeq (wAsg (.nm 2) (wE rSlH (w2 (wV 0) (wInt (wS (on1V negD) (w1 (wC (.int 1)))))))) (wSeq (wIfS (wB (wS (on2V eqD) (w2 (wE (on2 ixD) (w2 (wV 2) (wC (.int 0)))) (wS (on1V negD) (w1 (wC (.int 1))))))) (wSeq (wAsg (.nm 2) (wE rSlL (w2 (wV 2) (wInt (wC (.int 1)))))) (wIfS (wB (wS (on2V gtD) (w2 (wS (on1V lenD) (w1 (wV 2))) (wE (on2 subD) (w2 (wV 1) (wC (.int 2))))))) (wRet (wC (.bl false))) (wNext))) (wIfS (wB (wS (on2V neD) (w2 (wS (on1V lenD) (w1 (wV 2))) (wE (on2 subD) (w2 (wV 1) (wC (.int 1))))))) (wRet (wC (.bl false))) (wNext))) (wRet (wS (on2V eqD) (w2 (wS (on1V lenD) (w1 (wLc (.nm 3) [3] (wIT (wV 2)) (wOrT (wB (wS (on2V ltD) (w2 (wV 3) (wC (.int 0))))) (wB (wS (on2V gtD) (w2 (wV 3) (wC (.int 99)))))) (wV 3)))) (wC (.int 0)))))))))
structure sp__law_due_fits (ds : List D) (R : Nat → D → List D → Prop) (Ed : Exn → List D → Prop) : Prop where
  run : w__law_due_fits (defEnds [0, 0] ds R Ed) (startE [0, 0] ds 4)

def n__law_signs : List Str := ["told", "due", "at"]
def w__law_signs : WS := wSeq (wIfS (wOrT (wNotT (wTru (wS (on2V isiD) (w2 (wV 0) (wC (.ty "tuple")))))) (wB (wS (on2V neD) (w2 (wS (on1V lenD) (w1 (wV 0))) (wS (on1V lenD) (w1 (wV 1))))))) (wRet (wC (.bl false))) (wNext)) (wSeq (wFor (.nm 2) (wIR1 (w1 (wS (on1V lenD) (w1 (wV 1))))) (wIfS (wOrT (wNotT (wTru (wCall [0] sp__law_int (w1 (wE (on2 ixD) (w2 (wV 0) (wV 2))))))) (wB (wS (on2V neD) (w2 (wE (on2 ixD) (w2 (wV 0) (wV 2))) (wE (on2 ixD) (w2 (wV 1) (wV 2))))))) (wRet (wC (.bl false))) (wNext))) (wRet (wC (.bl true))))
structure sp__law_signs (ds : List D) (R : Nat → D → List D → Prop) (Ed : Exn → List D → Prop) : Prop where
  run : w__law_signs (defEnds [0, 0] ds R Ed) (startE [0, 0] ds 3)

def n__law_ask : List Str := ["word", "value", "length", "told", "name", "raised", "thrown"]
def w__law_ask : WS := wSeq (wAsg (.nm 3) (wC .non)) (wSeq (wAsg (.nm 4) (wC .non)) (wSeq (wTry subX (wIfS (wB (wS (on2V eqD) (w2 (wV 0) (wC (.int 0))))) (wAsg (.nm 3) (wCall [0, 0] sp_tail_of (w2 (wV 1) (wV 2)))) (wIfS (wB (wS (on2V eqD) (w2 (wV 0) (wC (.int 1))))) (wAsg (.nm 3) (wCall [0, 0] sp_head_of (w2 (wV 1) (wV 2)))) (wAsg (.nm 3) (wCall [0, 0] sp_cut_window (w2 (wV 1) (wV 2)))))) [("BadWindow", some 5, wAsg (.nm 4) (wTup (w2 (wC (.str "window")) (wXf 5 "place")))), ("BadNumber", some 6, wAsg (.nm 4) (wTup (w2 (wC (.str "number")) (wXf 6 "name"))))]) (wSeq (wIfS (wB (wS (on2V isntD) (w2 (wV 4) (wC .non)))) (wRet (wV 4)) (wNext)) (wRet (wTup (w2 (wC (.str "told")) (wV 3)))))))
structure sp__law_ask (ds : List D) (R : Nat → D → List D → Prop) (Ed : Exn → List D → Prop) : Prop where
  run : w__law_ask (defEnds [0, 0, 0] ds R Ed) (startE [0, 0, 0] ds 7)

def n__law_named : List Str := ["word", "text", "length", "at", "told", "name", "raised"]
def w__law_named : WS := wSeq (wAsg (.nm 4) (wC .non)) (wSeq (wAsg (.nm 5) (wC .non)) (wSeq (wTry subX (wIfS (wB (wS (on2V eqD) (w2 (wV 0) (wC (.int 0))))) (wAsg (.nm 4) (wCall [0, 0] sp_windows (w2 (wV 1) (wV 2)))) (wIfS (wB (wS (on2V eqD) (w2 (wV 0) (wC (.int 1))))) (wAsg (.nm 4) (wCall [0, 0, 0] sp_window_of (wCons (wV 1) (wCons (wV 2) (wCons (wV 3) (wNil)))))) (wIfS (wB (wS (on2V eqD) (w2 (wV 0) (wC (.int 2))))) (wAsg (.nm 4) (wCall [0, 0, 0] sp_node_behind (wCons (wV 1) (wCons (wV 2) (wCons (wV 3) (wNil)))))) (wAsg (.nm 4) (wCall [0, 0] sp_fits (w2 (wV 3) (wV 2))))))) [("BadNumber", some 6, wAsg (.nm 5) (wXf 6 "name"))]) (wSeq (wIfS (wB (wS (on2V isntD) (w2 (wV 5) (wC .non)))) (wRet (wV 5)) (wNext)) (wRet (wTup (w2 (wC (.str "told")) (wV 4)))))))
structure sp__law_named (ds : List D) (R : Nat → D → List D → Prop) (Ed : Exn → List D → Prop) : Prop where
  run : w__law_named (defEnds [0, 0, 0, 0] ds R Ed) (startE [0, 0, 0, 0] ds 7)

def n__law_windows_right : List Str := ["text", "length", "due", "row", "told", "at", "behind", "letter"]
def w__law_windows_right : WS := wSeq (wAsg (.nm 2) (wCall [0, 0] sp__law_windows (w2 (wV 0) (wV 1)))) (wSeq (wAsg (.nm 3) (wLc (.nm 7) [7] (wIL (wV 0)) (wYes) (wV 7))) (wSeq (wAsg (.nm 4) (wCall [0, 0] sp_windows (w2 (wV 3) (wV 1)))) (wSeq (wIfS (wOrT (wNotT (wTru (wS (on2V isiD) (w2 (wV 4) (wC (.ty "tuple")))))) (wOrT (wB (wS (on2V neD) (w2 (wS (on1V lenD) (w1 (wV 4))) (wE (on2 addD) (w2 (wS (on1V lenD) (w1 (wV 0))) (wC (.int 1))))))) (wB (wS (on2V neD) (w2 (wV 3) (wV 0)))))) (wRet (wC (.bl false))) (wNext)) (wSeq (wFor (.nm 5) (wIR1 (w1 (wS (on1V lenD) (w1 (wV 2))))) (wSeq (wIfS (wOrT (wNotT (wTru (wCall [0, 0] sp__law_signs (w2 (wE (on2 ixD) (w2 (wV 4) (wV 5))) (wE (on2 ixD) (w2 (wV 2) (wV 5))))))) (wB (wS (on2V isntD) (w2 (wCall [0, 0] sp_fits (w2 (wE (on2 ixD) (w2 (wV 2) (wV 5))) (wV 1))) (wC (.bl true)))))) (wRet (wC (.bl false))) (wNext)) (wSeq (wIfS (wNotT (wTru (wCall [0, 0] sp__law_signs (w2 (wCall [0, 0, 0] sp_window_of (wCons (wE (on1 tupD) (w1 (wV 0))) (wCons (wV 1) (wCons (wE (on2 addD) (w2 (wV 5) (wC (.int 1)))) (wNil))))) (wE (on2 ixD) (w2 (wV 2) (wV 5))))))) (wRet (wC (.bl false))) (wNext)) (wSeq (wIfS (wNotT (wTru (wCall [0, 0] sp__law_signs (w2 (wCall [0, 0] sp_tail_of (w2 (wE (on2 ixD) (w2 (wV 2) (wV 5))) (wV 1))) (wCall [0, 0, 0] sp__law_node (wCons (wV 0) (wCons (wV 1) (wCons (wV 5) (wNil))))))))) (wRet (wC (.bl false))) (wNext)) (wIfS (wNotT (wTru (wCall [0, 0] sp__law_signs (w2 (wCall [0, 0] sp_head_of (w2 (wE (on2 ixD) (w2 (wV 2) (wV 5))) (wV 1))) (wCall [0, 0, 0] sp__law_node (wCons (wV 0) (wCons (wV 1) (wCons (wE (on2 addD) (w2 (wV 5) (wC (.int 1)))) (wNil))))))))) (wRet (wC (.bl false))) (wNext)))))) (wSeq (wFor (.nm 6) (wIR1 (w1 (wE (on2 addD) (w2 (wS (on1V lenD) (w1 (wV 0))) (wC (.int 2)))))) (wIfS (wNotT (wTru (wCall [0, 0] sp__law_signs (w2 (wCall [0, 0, 0] sp_node_behind (wCons (wV 3) (wCons (wV 1) (wCons (wV 6) (wNil))))) (wCall [0, 0, 0] sp__law_node (wCons (wV 0) (wCons (wV 1) (wCons (wV 6) (wNil))))))))) (wRet (wC (.bl false))) (wNext))) (wRet (wS (on2V eqD) (w2 (wV 3) (wV 0)))))))))
structure sp__law_windows_right (ds : List D) (R : Nat → D → List D → Prop) (Ed : Exn → List D → Prop) : Prop where
  run : w__law_windows_right (defEnds [0, 0] ds R Ed) (startE [0, 0] ds 8)

def n__law_longer_right : List Str := ["text", "length", "short", "told", "at", "answer", "last", "whole", "signs"]
def w__law_longer_right : WS := wSeq (wAsg (.nm 2) (wCall [0, 0] sp__law_windows (w2 (wV 0) (wV 1)))) (wSeq (wAsg (.nm 3) (wCall [0, 0] sp_windows (w2 (wV 0) (wE (on2 addD) (w2 (wV 1) (wC (.int 1))))))) (wSeq (wIfS (wOrT (wNotT (wTru (wS (on2V isiD) (w2 (wV 3) (wC (.ty "tuple")))))) (wB (wS (on2V neD) (w2 (wS (on1V lenD) (w1 (wV 3))) (wS (on1V lenD) (w1 (wV 2))))))) (wRet (wC (.bl false))) (wNext)) (wSeq (wFor (.nm 4) (wIR1 (w1 (wS (on1V lenD) (w1 (wV 2))))) (wSeq (wIfS (wNotT (wTru (wCall [0, 0] sp__law_signs (w2 (wCall [0, 0] sp_cut_window (w2 (wE (on2 ixD) (w2 (wV 3) (wV 4))) (wV 1))) (wE (on2 ixD) (w2 (wV 2) (wV 4))))))) (wRet (wC (.bl false))) (wNext)) (wSeq (wIfS (wAndT (wB (wS (on2V ltD) (w2 (wV 4) (wS (on1V lenD) (w1 (wV 0)))))) (wNotT (wTru (wCall [0, 0] sp__law_signs (w2 (wCall [0, 0, 0] sp_node_behind (wCons (wV 0) (wCons (wE (on2 addD) (w2 (wV 1) (wC (.int 1)))) (wCons (wE (on2 addD) (w2 (wV 4) (wC (.int 1)))) (wNil))))) (wE (on2 ixD) (w2 (wV 2) (wV 4)))))))) (wRet (wC (.bl false))) (wNext)) (wSeq (wAsg (.nm 5) (wCall [0, 0] sp_fits (w2 (wE (on2 ixD) (w2 (wV 2) (wV 4))) (wE (on2 addD) (w2 (wV 1) (wC (.int 1))))))) (wIfS (wOrT (wNotT (wTru (wS (on2V isiD) (w2 (wV 5) (wC (.ty "bool")))))) (wB (wS (on2V neD) (w2 (wV 5) (wCall [0, 0] sp__law_due_fits (w2 (wE (on2 ixD) (w2 (wV 2) (wV 4))) (wE (on2 addD) (w2 (wV 1) (wC (.int 1)))))))))) (wRet (wC (.bl false))) (wNext)))))) (wSeq (wAsg (.nm 6) (wCall [0, 0] sp_windows (w2 (wV 0) (wE (on2 addD) (w2 (wS (on1V lenD) (w1 (wV 0))) (wC (.int 2))))))) (wSeq (wAsg (.nm 7) (wCall [0, 0] sp_windows (w2 (wV 0) (wC (.int 70))))) (wSeq (wIfS (wB (wS (on2V neD) (w2 (wS (on1V lenD) (w1 (wV 6))) (wS (on1V lenD) (w1 (wV 7)))))) (wRet (wC (.bl false))) (wNext)) (wSeq (wAsg (.nm 8) (wE (on2 addD) (w2 (wE (on2 addD) (w2 (wLst (w1 (wS (on1V negD) (w1 (wC (.int 1)))))) (wV 0))) (wLst (w1 (wS (on1V negD) (w1 (wC (.int 2))))))))) (wSeq (wFor (.nm 4) (wIR1 (w1 (wS (on1V lenD) (w1 (wV 7))))) (wIfS (wOrT (wNotT (wTru (wCall [0, 0] sp__law_signs (w2 (wE (on2 ixD) (w2 (wV 6) (wV 4))) (wE rSlH (w2 (wV 8) (wInt (wE (on2 addD) (w2 (wV 4) (wC (.int 2))))))))))) (wNotT (wTru (wCall [0, 0] sp__law_signs (w2 (wE (on2 ixD) (w2 (wV 7) (wV 4))) (wE rSlH (w2 (wV 8) (wInt (wE (on2 addD) (w2 (wV 4) (wC (.int 2)))))))))))) (wRet (wC (.bl false))) (wNext))) (wRet (wC (.bl true)))))))))))
structure sp__law_longer_right (ds : List D) (R : Nat → D → List D → Prop) (Ed : Exn → List D → Prop) : Prop where
  run : w__law_longer_right (defEnds [0, 0] ds R Ed) (startE [0, 0] ds 9)

def n__law_bent : List Str := ["draws", "window", "row", "at", "word", "sign"]
def w__law_bent : WS := wSeq (wAsg (.nm 2) (wLc (.nm 5) [5] (wIT (wV 1)) (wYes) (wV 5))) (wSeq (wAsg (.nm 3) (wE (on2 modD) (w2 (wS (on1V int1D) (w1 (wCall [1, 0] sp__law_take (w2 (wV 0) (wC (.int 16)))))) (wS (on1V lenD) (w1 (wV 2)))))) (wSeq (wAsg (.nm 4) (wCall [1, 0] sp__law_take (w2 (wV 0) (wC (.int 16))))) (wSeq (wIfS (wB (wS (on2V eqD) (w2 (wV 4) (wC (.int 0))))) (wRet (wV 2)) (wNext)) (wSeq (wIfS (wB (wS (on2V leD) (w2 (wV 4) (wC (.int 4))))) (wRet (wE (on2 ixD) (w2 (wLst (wCons (wE rSlL (w2 (wV 1) (wInt (wC (.int 1))))) (wCons (wE (on2 addD) (w2 (wE rSlH (w2 (wV 1) (wInt (wC (.int 1))))) (wV 1))) (wCons (wE rSlH (w2 (wV 1) (wInt (wS (on1V negD) (w1 (wC (.int 1))))))) (wCons (wE (on2 addD) (w2 (wV 1) (wTup (w1 (wC (.int 5)))))) (wNil)))))) (wE (on2 subD) (w2 (wV 4) (wC (.int 1))))))) (wNext)) (wSeq (wIfS (wB (wS (on2V leD) (w2 (wV 4) (wC (.int 6))))) (wRet (wE (on2 ixD) (w2 (wLst (w2 (wC (.str "01")) (wC .non))) (wE (on2 subD) (w2 (wV 4) (wC (.int 5))))))) (wNext)) (wSeq (wIfS (wB (wS (on2V eqD) (w2 (wV 4) (wC (.int 7))))) (wRet (wTup (wNil))) (wNext)) (wSeq (wIfS (wB (wS (on2V leD) (w2 (wV 4) (wC (.int 14))))) (wStore 2 (wV 3) (wE (on2 ixD) (w2 (wLst (wCons (wC (.int 100)) (wCons (wS (on1V negD) (w1 (wC (.int 1)))) (wCons (wS (on1V negD) (w1 (wC (.int 2)))) (wCons (wC (.bl true)) (wCons (wC .non) (wCons (wC (.int 0)) (wCons (wC (.int 99)) (wNil))))))))) (wE (on2 subD) (w2 (wV 4) (wC (.int 8))))))) (wNext)) (wRet (wE (on1 tupD) (w1 (wV 2)))))))))))
structure sp__law_bent (ds : List D) (R : Nat → D → List D → Prop) (Ed : Exn → List D → Prop) : Prop where
  run : w__law_bent (defEnds [1, 0] ds R Ed) (startE [1, 0] ds 6)

def n__law_bends_right : List Str := ["draws", "text", "length", "pool", "turn", "value", "due", "told", "cut"]
def w__law_bends_right : WS := wSeq (wAsg (.nm 3) (wCall [0, 0] sp__law_windows (w2 (wV 1) (wV 2)))) (wSeq (wFor (.nm 4) (wIR1 (w1 (wC (.int 3)))) (wSeq (wAsg (.nm 5) (wCall [1, 0] sp__law_bent (w2 (wV 0) (wE (on2 ixD) (w2 (wV 3) (wE (on2 modD) (w2 (wS (on1V int1D) (w1 (wE (on2 addD) (w2 (wE (on2 mulD) (w2 (wCall [1, 0] sp__law_take (w2 (wV 0) (wC (.int 16)))) (wC (.int 16)))) (wCall [1, 0] sp__law_take (w2 (wV 0) (wC (.int 16)))))))) (wS (on1V lenD) (w1 (wV 3)))))))))) (wSeq (wAsg (.nm 6) (wCall [0, 0] sp__law_due_fits (w2 (wV 5) (wV 2)))) (wSeq (wAsg (.nm 7) (wCall [0, 0] sp_fits (w2 (wV 5) (wV 2)))) (wSeq (wIfS (wOrT (wNotT (wTru (wS (on2V isiD) (w2 (wV 7) (wC (.ty "bool")))))) (wB (wS (on2V neD) (w2 (wV 7) (wV 6))))) (wRet (wC (.bl false))) (wNext)) (wSeq (wIfS (wTru (wV 6)) (wSeq (wIfS (wNotT (wTru (wCall [0, 0] sp__law_signs (w2 (wE (on2 ixD) (w2 (wCall [0, 0, 0] sp__law_ask (wCons (wC (.int 0)) (wCons (wV 5) (wCons (wV 2) (wNil))))) (wC (.int 1)))) (wE rSlH (w2 (wV 5) (wInt (wS (on1V negD) (w1 (wC (.int 1))))))))))) (wRet (wC (.bl false))) (wNext)) (wIfS (wNotT (wTru (wCall [0, 0] sp__law_signs (w2 (wE (on2 ixD) (w2 (wCall [0, 0, 0] sp__law_ask (wCons (wC (.int 1)) (wCons (wV 5) (wCons (wV 2) (wNil))))) (wC (.int 1)))) (wCall [0, 0] sp__law_head (w2 (wV 5) (wV 2))))))) (wRet (wC (.bl false))) (wNext))) (wIfS (wOrT (wB (wS (on2V neD) (w2 (wCall [0, 0, 0] sp__law_ask (wCons (wC (.int 0)) (wCons (wV 5) (wCons (wV 2) (wNil))))) (wTup (w2 (wC (.str "window")) (wS (on1V negD) (w1 (wC (.int 1))))))))) (wB (wS (on2V neD) (w2 (wCall [0, 0, 0] sp__law_ask (wCons (wC (.int 1)) (wCons (wV 5) (wCons (wV 2) (wNil))))) (wTup (w2 (wC (.str "window")) (wS (on1V negD) (w1 (wC (.int 1)))))))))) (wRet (wC (.bl false))) (wNext))) (wSeq (wAsg (.nm 8) (wCall [0, 0, 0] sp__law_ask (wCons (wC (.int 2)) (wCons (wV 5) (wCons (wV 2) (wNil)))))) (wIfS (wNotT (wTru (wCall [0, 0] sp__law_due_fits (w2 (wV 5) (wE (on2 addD) (w2 (wV 2) (wC (.int 1)))))))) (wIfS (wB (wS (on2V neD) (w2 (wV 8) (wTup (w2 (wC (.str "window")) (wS (on1V negD) (w1 (wC (.int 1))))))))) (wRet (wC (.bl false))) (wNext)) (wIfS (wOrT (wB (wS (on2V neD) (w2 (wE (on2 ixD) (w2 (wV 8) (wC (.int 0)))) (wC (.str "told"))))) (wNotT (wTru (wCall [0, 0] sp__law_signs (w2 (wE (on2 ixD) (w2 (wV 8) (wC (.int 1)))) (wE rSlL (w2 (wV 5) (wInt (wS (on2V max2D) (w2 (wC (.int 0)) (wE (on2 subD) (w2 (wS (on1V lenD) (w1 (wV 5))) (wV 2))))))))))))) (wRet (wC (.bl false))) (wNext)))))))))) (wRet (wC (.bl true))))
structure sp__law_bends_right (ds : List D) (R : Nat → D → List D → Prop) (Ed : Exn → List D → Prop) : Prop where
  run : w__law_bends_right (defEnds [1, 0, 0] ds R Ed) (startE [1, 0, 0] ds 9)

def n__law_letters_right : List Str := ["draws", "number", "value"]
def w__law_letters_right : WS := wSeq (wAsg (.nm 1) (wE (on2 addD) (w2 (wE (on2 mulD) (w2 (wCall [1, 0] sp__law_take (w2 (wV 0) (wC (.int 16)))) (wC (.int 16)))) (wCall [1, 0] sp__law_take (w2 (wV 0) (wC (.int 16))))))) (wSeq (wFor (.nm 2) (wIL (wLst (wCons (wC (.int 0)) (wCons (wC (.int 99)) (wCons (wV 1) (wNil)))))) (wSeq (wIfS (wAndT (wB (wS (on2V ltD) (w2 (wV 2) (wC (.int 100))))) (wB (wS (on2V isntD) (w2 (wCall [0] sp_is_letter (w1 (wV 2))) (wC (.bl true)))))) (wRet (wC (.bl false))) (wNext)) (wIfS (wAndT (wB (wS (on2V geD) (w2 (wV 2) (wC (.int 100))))) (wB (wS (on2V isntD) (w2 (wCall [0] sp_is_letter (w1 (wV 2))) (wC (.bl false)))))) (wRet (wC (.bl false))) (wNext)))) (wSeq (wFor (.nm 2) (wIL (wLst (wCons (wC (.int 100)) (wCons (wS (on1V negD) (w1 (wC (.int 1)))) (wCons (wS (on1V negD) (w1 (wC (.int 2)))) (wCons (wE (on2 subD) (w2 (wS (on1V negD) (w1 (wV 1))) (wC (.int 1)))) (wCons (wC (.bl true)) (wCons (wC (.bl false)) (wCons (wC .non) (wCons (wC (.str "5")) (wCons (wTup (w1 (wC (.int 5)))) (wCons (wLst (w1 (wC (.int 5)))) (wNil))))))))))))) (wIfS (wB (wS (on2V isntD) (w2 (wCall [0] sp_is_letter (w1 (wV 2))) (wC (.bl false))))) (wRet (wC (.bl false))) (wNext))) (wRet (wAnd (wCall [0] sp__law_int (w1 (wC (.int (-1))))) (wAnd (wS (on2V eqD) (w2 (wC (.int (-1))) (wS (on1V negD) (w1 (wC (.int 1)))))) (wAnd (wCall [0] sp__law_int (w1 (wC (.int (-2))))) (wS (on2V eqD) (w2 (wC (.int (-2))) (wS (on1V negD) (w1 (wC (.int 2))))))))))))
structure sp__law_letters_right (ds : List D) (R : Nat → D → List D → Prop) (Ed : Exn → List D → Prop) : Prop where
  run : w__law_letters_right (defEnds [1] ds R Ed) (startE [1] ds 3)

def n__law_refusals_right : List Str := ["draws", "text", "length", "wrong", "word", "at"]
def w__law_refusals_right : WS := wSeq (wAsg (.nm 3) (wE (on2 ixD) (w2 (wLst (wCons (wC (.int 1)) (wCons (wC (.int 71)) (wCons (wC (.bl true)) (wCons (wC .non) (wCons (wC (.str "3")) (wCons (wC (.int 0)) (wCons (wS (on1V negD) (w1 (wC (.int 2)))) (wNil))))))))) (wCall [1, 0] sp__law_take (w2 (wV 0) (wC (.int 7))))))) (wSeq (wFor (.nm 4) (wIR1 (w1 (wC (.int 4)))) (wIfS (wB (wS (on2V neD) (w2 (wCall [0, 0, 0, 0] sp__law_named (wCons (wV 4) (wCons (wV 1) (wCons (wV 3) (wCons (wS (on1V negD) (w1 (wC (.int 1)))) (wNil)))))) (wC (.str "length"))))) (wRet (wC (.bl false))) (wNext))) (wSeq (wFor (.nm 4) (wIR1 (w1 (wC (.int 3)))) (wIfS (wB (wS (on2V neD) (w2 (wCall [0, 0, 0] sp__law_ask (wCons (wV 4) (wCons (wC .non) (wCons (wV 3) (wNil))))) (wTup (w2 (wC (.str "number")) (wC (.str "length"))))))) (wRet (wC (.bl false))) (wNext))) (wSeq (wIfS (wOrT (wB (wS (on2V neD) (w2 (wCall [0, 0, 0] sp__law_ask (wCons (wC (.int 2)) (wCons (wC .non) (wCons (wC (.int 70)) (wNil))))) (wTup (w2 (wC (.str "number")) (wC (.str "length"))))))) (wB (wS (on2V neD) (w2 (wCall [0, 0, 0] sp__law_ask (wCons (wC (.int 2)) (wCons (wC .non) (wCons (wC (.int 69)) (wNil))))) (wTup (w2 (wC (.str "window")) (wS (on1V negD) (w1 (wC (.int 1)))))))))) (wRet (wC (.bl false))) (wNext)) (wSeq (wAsg (.nm 5) (wCall [1, 0] sp__law_take (w2 (wV 0) (wC (.int 4))))) (wSeq (wIfS (wB (wS (on2V neD) (w2 (wCall [0, 0, 0, 0] sp__law_named (wCons (wC (.int 1)) (wCons (wV 1) (wCons (wV 2) (wCons (wE (on2 ixD) (w2 (wLst (wCons (wC (.int 0)) (wCons (wE (on2 addD) (w2 (wS (on1V lenD) (w1 (wV 1))) (wC (.int 2)))) (wCons (wC (.bl true)) (wCons (wC .non) (wNil)))))) (wV 5))) (wNil)))))) (wC (.str "sign"))))) (wRet (wC (.bl false))) (wNext)) (wRet (wS (on2V eqD) (w2 (wCall [0, 0, 0, 0] sp__law_named (wCons (wC (.int 2)) (wCons (wV 1) (wCons (wV 2) (wCons (wE (on2 ixD) (w2 (wLst (wCons (wS (on1V negD) (w1 (wC (.int 1)))) (wCons (wE (on2 addD) (w2 (wS (on1V lenD) (w1 (wV 1))) (wC (.int 2)))) (wCons (wC (.bl false)) (wCons (wC .non) (wNil)))))) (wV 5))) (wNil)))))) (wC (.str "behind"))))))))))
structure sp__law_refusals_right (ds : List D) (R : Nat → D → List D → Prop) (Ed : Exn → List D → Prop) : Prop where
  run : w__law_refusals_right (defEnds [1, 0, 0] ds R Ed) (startE [1, 0, 0] ds 6)

def n_law : List Str := ["script", "draws", "pick", "length", "text"]
def w_law : WS := wSeq (wAsg (.nm 1) (wCall [0] sp__law_draws (w1 (wV 0)))) (wSeq (wAsg (.nm 2) (wCall [1, 0] sp__law_take (w2 (wV 1) (wC (.int 16))))) (wSeq (wAsg (.nm 3) (wE (on2 addD) (w2 (wC (.int 2)) (wCall [1, 0] sp__law_take (w2 (wV 1) (wC (.int 6))))))) (wSeq (wAsg (.nm 4) (wCall [1, 0] sp__law_text (w2 (wV 1) (wV 3)))) (wSeq (wIfS (wB (wS (on2V eqD) (w2 (wV 2) (wC (.int 15))))) (wAsg (.nm 4) (wE rSlH (w2 (wE (on2 mulD) (w2 (wE (on2 addD) (w2 (wV 4) (wLst (w1 (wE (on2 mulD) (w2 (wC (.int 6)) (wCall [1, 0] sp__law_take (w2 (wV 1) (wC (.int 16)))))))))) (wC (.int 60)))) (wInt (wC (.int 60)))))) (wNext)) (wSeq (wIfS (wB (wS (on2V geD) (w2 (wV 2) (wC (.int 12))))) (wAsg (.nm 3) (wE (on2 addD) (w2 (wC (.int 2)) (wE (on2 modD) (w2 (wS (on1V int1D) (w1 (wE (on2 addD) (w2 (wE (on2 mulD) (w2 (wCall [1, 0] sp__law_take (w2 (wV 1) (wC (.int 16)))) (wC (.int 16)))) (wCall [1, 0] sp__law_take (w2 (wV 1) (wC (.int 16)))))))) (wC (.int 68))))))) (wNext)) (wSeq (wIfS (wOrT (wNotT (wTru (wCall [0, 0] sp__law_windows_right (w2 (wV 4) (wV 3))))) (wNotT (wTru (wCall [0, 0] sp__law_longer_right (w2 (wV 4) (wV 3)))))) (wRet (wC (.bl false))) (wNext)) (wSeq (wIfS (wOrT (wNotT (wTru (wCall [1, 0, 0] sp__law_bends_right (wCons (wV 1) (wCons (wV 4) (wCons (wV 3) (wNil))))))) (wNotT (wTru (wCall [1] sp__law_letters_right (w1 (wV 1)))))) (wRet (wC (.bl false))) (wNext)) (wRet (wCall [1, 0, 0] sp__law_refusals_right (wCons (wV 1) (wCons (wV 4) (wCons (wV 3) (wNil)))))))))))))
structure sp_law (ds : List D) (R : Nat → D → List D → Prop) (Ed : Exn → List D → Prop) : Prop where
  run : w_law (defEnds [0] ds R Ed) (startE [0] ds 5)

end LK
set_option Elab.async false
set_option linter.all false
set_option maxRecDepth 100000
set_option maxHeartbeats 4000000
namespace LK
open PySem PySem.Spec PyProof.Rows L2 Z
structure HF (K : PySem.W.Frag) (mg : Str → Option Value) : Prop where
  f_is_int : ∃ f fd, FunD K "is_int" "is_int" (defArgs (top 7)) (defBody (top 7)) (defScope (top 7)) [] [] f fd ∧ mg "is_int" = some (.ref f)
  f_check_number : ∃ f fd, FunD K "check_number" "check_number" (defArgs (top 8)) (defBody (top 8)) (defScope (top 8)) [] [] f fd ∧ mg "check_number" = some (.ref f)
  f_is_letter : ∃ f fd, FunD K "is_letter" "is_letter" (defArgs (top 12)) (defBody (top 12)) (defScope (top 12)) [] [] f fd ∧ mg "is_letter" = some (.ref f)
  f_row_of : ∃ f fd, FunD K "row_of" "row_of" (defArgs (top 14)) (defBody (top 14)) (defScope (top 14)) [] [] f fd ∧ mg "row_of" = some (.ref f)
  f_check_text : ∃ f fd, FunD K "check_text" "check_text" (defArgs (top 16)) (defBody (top 16)) (defScope (top 16)) [] [] f fd ∧ mg "check_text" = some (.ref f)
  f_signs_of : ∃ f fd, FunD K "signs_of" "signs_of" (defArgs (top 17)) (defBody (top 17)) (defScope (top 17)) [] [] f fd ∧ mg "signs_of" = some (.ref f)
  f__node : ∃ f fd, FunD K "_node" "_node" (defArgs (top 19)) (defBody (top 19)) (defScope (top 19)) [] [] f fd ∧ mg "_node" = some (.ref f)
  f_node_behind : ∃ f fd, FunD K "node_behind" "node_behind" (defArgs (top 20)) (defBody (top 20)) (defScope (top 20)) [] [] f fd ∧ mg "node_behind" = some (.ref f)
  f_window_of : ∃ f fd, FunD K "window_of" "window_of" (defArgs (top 21)) (defBody (top 21)) (defScope (top 21)) [] [] f fd ∧ mg "window_of" = some (.ref f)
  f_windows : ∃ f fd, FunD K "windows" "windows" (defArgs (top 22)) (defBody (top 22)) (defScope (top 22)) [] [] f fd ∧ mg "windows" = some (.ref f)
  f_fits : ∃ f fd, FunD K "fits" "fits" (defArgs (top 23)) (defBody (top 23)) (defScope (top 23)) [] [] f fd ∧ mg "fits" = some (.ref f)
  f_tail_of : ∃ f fd, FunD K "tail_of" "tail_of" (defArgs (top 24)) (defBody (top 24)) (defScope (top 24)) [] [] f fd ∧ mg "tail_of" = some (.ref f)
  f_head_of : ∃ f fd, FunD K "head_of" "head_of" (defArgs (top 25)) (defBody (top 25)) (defScope (top 25)) [] [] f fd ∧ mg "head_of" = some (.ref f)
  f_cut_window : ∃ f fd, FunD K "cut_window" "cut_window" (defArgs (top 26)) (defBody (top 26)) (defScope (top 26)) [] [] f fd ∧ mg "cut_window" = some (.ref f)
  f__law_draws : ∃ f fd, FunD K "_law_draws" "_law_draws" (defArgs (top 28)) (defBody (top 28)) (defScope (top 28)) [] [] f fd ∧ mg "_law_draws" = some (.ref f)
  f__law_take : ∃ f fd, FunD K "_law_take" "_law_take" (defArgs (top 29)) (defBody (top 29)) (defScope (top 29)) [] [] f fd ∧ mg "_law_take" = some (.ref f)
  f__law_int : ∃ f fd, FunD K "_law_int" "_law_int" (defArgs (top 30)) (defBody (top 30)) (defScope (top 30)) [] [] f fd ∧ mg "_law_int" = some (.ref f)
  f__law_letters : ∃ f fd, FunD K "_law_letters" "_law_letters" (defArgs (top 31)) (defBody (top 31)) (defScope (top 31)) [] [] f fd ∧ mg "_law_letters" = some (.ref f)
  f__law_row : ∃ f fd, FunD K "_law_row" "_law_row" (defArgs (top 32)) (defBody (top 32)) (defScope (top 32)) [] [] f fd ∧ mg "_law_row" = some (.ref f)
  f__law_chain : ∃ f fd, FunD K "_law_chain" "_law_chain" (defArgs (top 33)) (defBody (top 33)) (defScope (top 33)) [] [] f fd ∧ mg "_law_chain" = some (.ref f)
  f__law_parted : ∃ f fd, FunD K "_law_parted" "_law_parted" (defArgs (top 34)) (defBody (top 34)) (defScope (top 34)) [] [] f fd ∧ mg "_law_parted" = some (.ref f)
  f__law_closed : ∃ f fd, FunD K "_law_closed" "_law_closed" (defArgs (top 35)) (defBody (top 35)) (defScope (top 35)) [] [] f fd ∧ mg "_law_closed" = some (.ref f)
  f__law_made : ∃ f fd, FunD K "_law_made" "_law_made" (defArgs (top 37)) (defBody (top 37)) (defScope (top 37)) [] [] f fd ∧ mg "_law_made" = some (.ref f)
  f__law_text : ∃ f fd, FunD K "_law_text" "_law_text" (defArgs (top 36)) (defBody (top 36)) (defScope (top 36)) [] [] f fd ∧ mg "_law_text" = some (.ref f)
  f__law_windows : ∃ f fd, FunD K "_law_windows" "_law_windows" (defArgs (top 38)) (defBody (top 38)) (defScope (top 38)) [] [] f fd ∧ mg "_law_windows" = some (.ref f)
  f__law_head : ∃ f fd, FunD K "_law_head" "_law_head" (defArgs (top 39)) (defBody (top 39)) (defScope (top 39)) [] [] f fd ∧ mg "_law_head" = some (.ref f)
  f__law_node : ∃ f fd, FunD K "_law_node" "_law_node" (defArgs (top 40)) (defBody (top 40)) (defScope (top 40)) [] [] f fd ∧ mg "_law_node" = some (.ref f)
  f__law_due_fits : ∃ f fd, FunD K "_law_due_fits" "_law_due_fits" (defArgs (top 41)) (defBody (top 41)) (defScope (top 41)) [] [] f fd ∧ mg "_law_due_fits" = some (.ref f)
  f__law_signs : ∃ f fd, FunD K "_law_signs" "_law_signs" (defArgs (top 42)) (defBody (top 42)) (defScope (top 42)) [] [] f fd ∧ mg "_law_signs" = some (.ref f)
  f__law_ask : ∃ f fd, FunD K "_law_ask" "_law_ask" (defArgs (top 43)) (defBody (top 43)) (defScope (top 43)) [] [] f fd ∧ mg "_law_ask" = some (.ref f)
  f__law_named : ∃ f fd, FunD K "_law_named" "_law_named" (defArgs (top 44)) (defBody (top 44)) (defScope (top 44)) [] [] f fd ∧ mg "_law_named" = some (.ref f)
  f__law_windows_right : ∃ f fd, FunD K "_law_windows_right" "_law_windows_right" (defArgs (top 45)) (defBody (top 45)) (defScope (top 45)) [] [] f fd ∧ mg "_law_windows_right" = some (.ref f)
  f__law_longer_right : ∃ f fd, FunD K "_law_longer_right" "_law_longer_right" (defArgs (top 46)) (defBody (top 46)) (defScope (top 46)) [] [] f fd ∧ mg "_law_longer_right" = some (.ref f)
  f__law_bent : ∃ f fd, FunD K "_law_bent" "_law_bent" (defArgs (top 47)) (defBody (top 47)) (defScope (top 47)) [] [] f fd ∧ mg "_law_bent" = some (.ref f)
  f__law_bends_right : ∃ f fd, FunD K "_law_bends_right" "_law_bends_right" (defArgs (top 48)) (defBody (top 48)) (defScope (top 48)) [] [] f fd ∧ mg "_law_bends_right" = some (.ref f)
  f__law_letters_right : ∃ f fd, FunD K "_law_letters_right" "_law_letters_right" (defArgs (top 49)) (defBody (top 49)) (defScope (top 49)) [] [] f fd ∧ mg "_law_letters_right" = some (.ref f)
  f__law_refusals_right : ∃ f fd, FunD K "_law_refusals_right" "_law_refusals_right" (defArgs (top 50)) (defBody (top 50)) (defScope (top 50)) [] [] f fd ∧ mg "_law_refusals_right" = some (.ref f)
  f_law : ∃ f fd, FunD K "law" "law" (defArgs (top 51)) (defBody (top 51)) (defScope (top 51)) [] [] f fd ∧ mg "law" = some (.ref f)
  b_all : mg "all" = none
  b_bool : mg "bool" = none
  b_enumerate : mg "enumerate" = none
  b_int : mg "int" = none
  b_isinstance : mg "isinstance" = none
  b_len : mg "len" = none
  b_list : mg "list" = none
  b_max : mg "max" = none
  b_min : mg "min" = none
  b_range : mg "range" = none
  b_tuple : mg "tuple" = none
  g_HOME : ∃ t, mg "HOME" = some (.int (-1) t)
  g_END : ∃ t, mg "END" = some (.int (-2) t)
  exc_BadNumber : ∀ (P : Program) (w : World) (base : Heap), ExcZ P w K mg base 1 "BadNumber" ["name"]
  exc_BadText : ∀ (P : Program) (w : World) (base : Heap), ExcZ P w K mg base 1 "BadText" ["place"]
  exc_BadWindow : ∀ (P : Program) (w : World) (base : Heap), ExcZ P w K mg base 1 "BadWindow" ["place"]
  exc_TooLarge : ∀ (P : Program) (w : World) (base : Heap), ExcZ P w K mg base 1 "TooLarge" ["name", "most"]
  nf_BadWindow_place : PySem.W.findIn K (.ref (He.ga K "BadWindow")) "place" = some none
  nf_BadNumber_name : PySem.W.findIn K (.ref (He.ga K "BadNumber")) "name" = some none
  x_BadNumber : XfC K (He.ga K "BadNumber")
  x_BadWindow : XfC K (He.ga K "BadWindow")
  sub : SubOk K subX
section
variable {P : Program} {w : World} {K : PySem.W.Frag} {mg : Str → Option Value} {base : Heap}
theorem nd_is_int : (n_is_int).Nodup := by decide +kernel
theorem sc_is_int : FnScope n_is_int ["value"] (defScope (top 7)) := ⟨rfl, rfl, rfl, by decide +kernel, rfl, by decide +kernel, by decide +kernel⟩
theorem ds_is_int (h : HF K mg) : ∀ (f : Addr) (cdv : Value) (A : Around) (outer : List PySem.Env) (s : Shared) (H : Hp) (E : XK), Room 0 (A.deeper (envOfC "is_int" (defScope (top 7)) s.heap.objs.size f cdv)) → DSs (cxD P w K mg base n_is_int "is_int" (defScope (top 7)) f cdv A outer s H E) ⟨K, none⟩ (fun cls d _ H => E cls d H) ⟨(n_is_int).length, ioOf 0 [0]⟩ (defBody (top 7)) w_is_int := fun f cdv A outer s H E hr =>
  have hu := hr.units
  (dss_one (ds_ret (do_and (do_callBV call_isiZ rfl h.b_isinstance (by decide +kernel) (dos_cons (dv 0) (dos_cons (do_bltn (v := .ty "int") rfl h.b_int (by decide +kernel) rfl rfl) dos_nil))) (do_one (do_not (do_callBV call_isiZ rfl h.b_isinstance (by decide +kernel) (dos_cons (dv 0) (dos_cons (do_bltn (v := .ty "bool") rfl h.b_bool (by decide +kernel) rfl rfl) dos_nil))))))))
theorem z_is_int (h : HF K mg) : FnZ P w K mg base 1 "is_int" [0] sp_is_int := by
  obtain ⟨f, fd, F, hm⟩ := h.f_is_int
  exact fnZ_of F hm (fun _ _ _ _ _ _ us hl => match us, hl with | [_], _ => rfl) sc_is_int rfl (by decide) (ds_is_int h f) fun _ _ _ _ q => q.run

theorem nd_check_number : (n_check_number).Nodup := by decide +kernel
theorem sc_check_number : FnScope n_check_number ["value", "name", "low", "high"] (defScope (top 8)) := ⟨rfl, rfl, rfl, by decide +kernel, rfl, by decide +kernel, by decide +kernel⟩
theorem ds_check_number (h : HF K mg) : ∀ (f : Addr) (cdv : Value) (A : Around) (outer : List PySem.Env) (s : Shared) (H : Hp) (E : XK), Room 2 (A.deeper (envOfC "check_number" (defScope (top 8)) s.heap.objs.size f cdv)) → DSs (cxD P w K mg base n_check_number "check_number" (defScope (top 8)) f cdv A outer s H E) ⟨K, none⟩ (fun cls d _ H => E cls d H) ⟨(n_check_number).length, ioOf 0 [0, 0, 0, 0]⟩ (defBody (top 8)) w_check_number := fun f cdv A outer s H E hr =>
  have hu := hr.units
  (dss_cons (ds_if (dt_not (dt_val (do_call ((z_is_int h).mono (by decide)) hr rfl takesD (dos_cons (dv 0) dos_nil)) rfl)) (dss_one (ds_raise (h.exc_BadNumber P w base) (hr.mono (by decide)) rfl takesD rfl (dos_cons (dv 1) dos_nil))) dss_nil) (dss_cons (ds_if (DW.dt (dw_or (dt_cmp op_ltZ (dv 0) (dv 2) (by rfl)) (dw_or1 (dt_cmp op_gtZ (dv 0) (dv 3) (by rfl))))) (dss_one (ds_raise (h.exc_BadNumber P w base) (hr.mono (by decide)) rfl takesD rfl (dos_cons (dv 1) dos_nil))) dss_nil) (dss_one (ds_ret (dv 0)))))
theorem z_check_number (h : HF K mg) : FnZ P w K mg base 3 "check_number" [0, 0, 0, 0] sp_check_number := by
  obtain ⟨f, fd, F, hm⟩ := h.f_check_number
  exact fnZ_of F hm (fun _ _ _ _ _ _ us hl => match us, hl with | [_, _, _, _], _ => rfl) sc_check_number rfl (by decide) (ds_check_number h f) fun _ _ _ _ q => q.run

theorem nd_is_letter : (n_is_letter).Nodup := by decide +kernel
theorem sc_is_letter : FnScope n_is_letter ["value"] (defScope (top 12)) := ⟨rfl, rfl, rfl, by decide +kernel, rfl, by decide +kernel, by decide +kernel⟩
theorem ds_is_letter (h : HF K mg) : ∀ (f : Addr) (cdv : Value) (A : Around) (outer : List PySem.Env) (s : Shared) (H : Hp) (E : XK), Room 1 (A.deeper (envOfC "is_letter" (defScope (top 12)) s.heap.objs.size f cdv)) → DSs (cxD P w K mg base n_is_letter "is_letter" (defScope (top 12)) f cdv A outer s H E) ⟨K, none⟩ (fun cls d _ H => E cls d H) ⟨(n_is_letter).length, ioOf 0 [0]⟩ (defBody (top 12)) w_is_letter := fun f cdv A outer s H E hr =>
  have hu := hr.units
  (dss_one (ds_ret (do_and (do_call ((z_is_int h).mono (by decide)) hr rfl takesD (dos_cons (dv 0) dos_nil)) (do_one (do_chain op_le op_le do_int (dv 0) do_int)))))
theorem z_is_letter (h : HF K mg) : FnZ P w K mg base 2 "is_letter" [0] sp_is_letter := by
  obtain ⟨f, fd, F, hm⟩ := h.f_is_letter
  exact fnZ_of F hm (fun _ _ _ _ _ _ us hl => match us, hl with | [_], _ => rfl) sc_is_letter rfl (by decide) (ds_is_letter h f) fun _ _ _ _ q => q.run

theorem nd_row_of : (n_row_of).Nodup := by decide +kernel
theorem sc_row_of : FnScope n_row_of ["value"] (defScope (top 14)) := ⟨rfl, rfl, rfl, by decide +kernel, rfl, by decide +kernel, by decide +kernel⟩
theorem ds_row_of (h : HF K mg) : ∀ (f : Addr) (cdv : Value) (A : Around) (outer : List PySem.Env) (s : Shared) (H : Hp) (E : XK), Room 0 (A.deeper (envOfC "row_of" (defScope (top 14)) s.heap.objs.size f cdv)) → DSs (cxD P w K mg base n_row_of "row_of" (defScope (top 14)) f cdv A outer s H E) ⟨K, none⟩ (fun cls d _ H => E cls d H) ⟨(n_row_of).length, ioOf 0 [0]⟩ (defBody (top 14)) w_row_of := fun f cdv A outer s H E hr =>
  have hu := hr.units
  (dss_cons (ds_if (dt_val (do_callBV call_isiZ rfl h.b_isinstance (by decide +kernel) (dos_cons (dv 0) (dos_cons (do_tup (dos_cons (do_bltn (v := .ty "list") rfl h.b_list (by decide +kernel) rfl rfl) (dos_cons (do_bltn (v := .ty "tuple") rfl h.b_tuple (by decide +kernel) rfl rfl) dos_nil))) dos_nil))) rfl) (dss_one (ds_ret (do_callT call_tupleZ rfl h.b_tuple (by decide +kernel) (dos_cons (dv 0) dos_nil)))) dss_nil) (dss_one (ds_ret do_non)))
theorem z_row_of (h : HF K mg) : FnZ P w K mg base 1 "row_of" [0] sp_row_of := by
  obtain ⟨f, fd, F, hm⟩ := h.f_row_of
  exact fnZ_of F hm (fun _ _ _ _ _ _ us hl => match us, hl with | [_], _ => rfl) sc_row_of rfl (by decide) (ds_row_of h f) fun _ _ _ _ q => q.run

theorem nd_check_text : (n_check_text).Nodup := by decide +kernel
theorem sc_check_text : FnScope n_check_text ["text"] (defScope (top 16)) := ⟨rfl, rfl, rfl, by decide +kernel, rfl, by decide +kernel, by decide +kernel⟩
theorem ds_check_text (h : HF K mg) : ∀ (f : Addr) (cdv : Value) (A : Around) (outer : List PySem.Env) (s : Shared) (H : Hp) (E : XK), Room 2 (A.deeper (envOfC "check_text" (defScope (top 16)) s.heap.objs.size f cdv)) → DSs (cxD P w K mg base n_check_text "check_text" (defScope (top 16)) f cdv A outer s H E) ⟨K, none⟩ (fun cls d _ H => E cls d H) ⟨(n_check_text).length, ioOf 0 [0]⟩ (defBody (top 16)) w_check_text := fun f cdv A outer s H E hr =>
  have hu := hr.units
  (dss_cons (dsn nd_check_text 1 (do_call ((z_row_of h).mono (by decide)) hr rfl takesD (dos_cons (dv 0) dos_nil))) (dss_cons (ds_if (dt_cmp op_isZ (dv 1) do_non (by rfl)) (dss_one (ds_raise (h.exc_BadText P w base) (hr.mono (by decide)) rfl takesD rfl (dos_cons (do_un un_negZ do_int) dos_nil))) dss_nil) (dss_cons (ds_for passesD rfl (di_enumT rfl h.b_enumerate (dv 1)) (pg_tup rfl (pgs_cons (pgn nd_check_text 2) (pgs_cons (pgn nd_check_text 3) pgs_nil))) (tg_tup (show ∀ i ∈ ([2, 3] : List Nat), i < 4 ∧ i ∉ ([] : List Nat) by decide)) (dss_one (ds_if (dt_not (dt_val (do_call ((z_is_letter h).mono (by decide)) hr rfl takesD (dos_cons (dv 3) dos_nil)) rfl)) (dss_one (ds_raise (h.exc_BadText P w base) (hr.mono (by decide)) rfl takesD rfl (dos_cons (dv 2) dos_nil))) dss_nil))) (dss_cons (ds_if (dt_cmp op_gtZ (do_callBV call_lenZ rfl h.b_len (by decide +kernel) (dos_cons (dv 1) dos_nil)) do_int (by rfl)) (dss_one (ds_raise (h.exc_TooLarge P w base) (hr.mono (by decide)) rfl takesD rfl (dos_cons do_str (dos_cons do_int dos_nil)))) dss_nil) (dss_one (ds_ret (dv 1)))))))
theorem z_check_text (h : HF K mg) : FnZ P w K mg base 3 "check_text" [0] sp_check_text := by
  obtain ⟨f, fd, F, hm⟩ := h.f_check_text
  exact fnZ_of F hm (fun _ _ _ _ _ _ us hl => match us, hl with | [_], _ => rfl) sc_check_text rfl (by decide) (ds_check_text h f) fun _ _ _ _ q => q.run

theorem nd_signs_of : (n_signs_of).Nodup := by decide +kernel
theorem sc_signs_of : FnScope n_signs_of ["text"] (defScope (top 17)) := ⟨rfl, rfl, rfl, by decide +kernel, rfl, by decide +kernel, by decide +kernel⟩
theorem ds_signs_of (h : HF K mg) : ∀ (f : Addr) (cdv : Value) (A : Around) (outer : List PySem.Env) (s : Shared) (H : Hp) (E : XK), Room 3 (A.deeper (envOfC "signs_of" (defScope (top 17)) s.heap.objs.size f cdv)) → DSs (cxD P w K mg base n_signs_of "signs_of" (defScope (top 17)) f cdv A outer s H E) ⟨K, none⟩ (fun cls d _ H => E cls d H) ⟨(n_signs_of).length, ioOf 0 [0]⟩ (defBody (top 17)) w_signs_of := fun f cdv A outer s H E hr =>
  have hu := hr.units
  (dss_one (ds_ret (do_bin op_addZ (do_call ((z_check_text h).mono (by decide)) hr rfl takesD (dos_cons (dv 0) dos_nil)) (do_tup (dos_cons (do_glob (v := .int (-2)) rfl h.g_END.choose_spec ⟨_, rfl⟩ rfl) dos_nil)))))
theorem z_signs_of (h : HF K mg) : FnZ P w K mg base 4 "signs_of" [0] sp_signs_of := by
  obtain ⟨f, fd, F, hm⟩ := h.f_signs_of
  exact fnZ_of F hm (fun _ _ _ _ _ _ us hl => match us, hl with | [_], _ => rfl) sc_signs_of rfl (by decide) (ds_signs_of h f) fun _ _ _ _ q => q.run

theorem nd__node : (n__node).Nodup := by decide +kernel
theorem sc__node : FnScope n__node ["signs", "length", "behind"] (defScope (top 19)) := ⟨rfl, rfl, rfl, by decide +kernel, rfl, by decide +kernel, by decide +kernel⟩
theorem ds__node (h : HF K mg) : ∀ (f : Addr) (cdv : Value) (A : Around) (outer : List PySem.Env) (s : Shared) (H : Hp) (E : XK), Room 0 (A.deeper (envOfC "_node" (defScope (top 19)) s.heap.objs.size f cdv)) → DSs (cxD P w K mg base n__node "_node" (defScope (top 19)) f cdv A outer s H E) ⟨K, none⟩ (fun cls d _ H => E cls d H) ⟨(n__node).length, ioOf 0 [0, 0, 0]⟩ (defBody (top 19)) w__node := fun f cdv A outer s H E hr =>
  have hu := hr.units
  (dss_cons (ds_if (dt_cmp (op_eqZ hu) (dv 2) (do_callBV call_lenZ rfl h.b_len (by decide +kernel) (dos_cons (dv 0) dos_nil)) (by rfl)) (dss_one (ds_ret (do_tup (dos_cons (do_glob (v := .int (-1)) rfl h.g_HOME.choose_spec ⟨_, rfl⟩ rfl) dos_nil)))) dss_nil) (dss_one (ds_ret (do_slL (do_bin op_addZ (do_tup (dos_cons (do_glob (v := .int (-1)) rfl h.g_HOME.choose_spec ⟨_, rfl⟩ rfl) dos_nil)) (do_slH (dv 0) (dv 2))) (do_bin op_subZ do_int (dv 1))))))
theorem z__node (h : HF K mg) : FnZ P w K mg base 1 "_node" [0, 0, 0] sp__node := by
  obtain ⟨f, fd, F, hm⟩ := h.f__node
  exact fnZ_of F hm (fun _ _ _ _ _ _ us hl => match us, hl with | [_, _, _], _ => rfl) sc__node rfl (by decide) (ds__node h f) fun _ _ _ _ q => q.run

theorem nd_node_behind : (n_node_behind).Nodup := by decide +kernel
theorem sc_node_behind : FnScope n_node_behind ["text", "length", "behind"] (defScope (top 20)) := ⟨rfl, rfl, rfl, by decide +kernel, rfl, by decide +kernel, by decide +kernel⟩
theorem ds_node_behind (h : HF K mg) : ∀ (f : Addr) (cdv : Value) (A : Around) (outer : List PySem.Env) (s : Shared) (H : Hp) (E : XK), Room 4 (A.deeper (envOfC "node_behind" (defScope (top 20)) s.heap.objs.size f cdv)) → DSs (cxD P w K mg base n_node_behind "node_behind" (defScope (top 20)) f cdv A outer s H E) ⟨K, none⟩ (fun cls d _ H => E cls d H) ⟨(n_node_behind).length, ioOf 0 [0, 0, 0]⟩ (defBody (top 20)) w_node_behind := fun f cdv A outer s H E hr =>
  have hu := hr.units
  (dss_cons (dsn nd_node_behind 3 (do_call ((z_signs_of h).mono (by decide)) hr rfl takesD (dos_cons (dv 0) dos_nil))) (dss_cons (ds_expr (do_call ((z_check_number h).mono (by decide)) hr rfl takesD (dos_cons (dv 1) (dos_cons do_str (dos_cons do_int (dos_cons do_int dos_nil)))))) (dss_cons (ds_expr (do_call ((z_check_number h).mono (by decide)) hr rfl takesD (dos_cons (dv 2) (dos_cons do_str (dos_cons do_int (dos_cons (do_callBV call_lenZ rfl h.b_len (by decide +kernel) (dos_cons (dv 3) dos_nil)) dos_nil)))))) (dss_one (ds_ret (do_call ((z__node h).mono (by decide)) hr rfl takesD (dos_cons (dv 3) (dos_cons (dv 1) (dos_cons (dv 2) dos_nil)))))))))
theorem z_node_behind (h : HF K mg) : FnZ P w K mg base 5 "node_behind" [0, 0, 0] sp_node_behind := by
  obtain ⟨f, fd, F, hm⟩ := h.f_node_behind
  exact fnZ_of F hm (fun _ _ _ _ _ _ us hl => match us, hl with | [_, _, _], _ => rfl) sc_node_behind rfl (by decide) (ds_node_behind h f) fun _ _ _ _ q => q.run

theorem nd_window_of : (n_window_of).Nodup := by decide +kernel
theorem sc_window_of : FnScope n_window_of ["text", "length", "sign"] (defScope (top 21)) := ⟨rfl, rfl, rfl, by decide +kernel, rfl, by decide +kernel, by decide +kernel⟩
theorem ds_window_of (h : HF K mg) : ∀ (f : Addr) (cdv : Value) (A : Around) (outer : List PySem.Env) (s : Shared) (H : Hp) (E : XK), Room 4 (A.deeper (envOfC "window_of" (defScope (top 21)) s.heap.objs.size f cdv)) → DSs (cxD P w K mg base n_window_of "window_of" (defScope (top 21)) f cdv A outer s H E) ⟨K, none⟩ (fun cls d _ H => E cls d H) ⟨(n_window_of).length, ioOf 0 [0, 0, 0]⟩ (defBody (top 21)) w_window_of := fun f cdv A outer s H E hr =>
  have hu := hr.units
  (dss_cons (dsn nd_window_of 3 (do_call ((z_signs_of h).mono (by decide)) hr rfl takesD (dos_cons (dv 0) dos_nil))) (dss_cons (ds_expr (do_call ((z_check_number h).mono (by decide)) hr rfl takesD (dos_cons (dv 1) (dos_cons do_str (dos_cons do_int (dos_cons do_int dos_nil)))))) (dss_cons (ds_expr (do_call ((z_check_number h).mono (by decide)) hr rfl takesD (dos_cons (dv 2) (dos_cons do_str (dos_cons do_int (dos_cons (do_callBV call_lenZ rfl h.b_len (by decide +kernel) (dos_cons (dv 3) dos_nil)) dos_nil)))))) (dss_one (ds_ret (do_bin op_addZ (do_call ((z__node h).mono (by decide)) hr rfl takesD (dos_cons (dv 3) (dos_cons (dv 1) (dos_cons (do_bin op_subZ (dv 2) do_int) dos_nil)))) (do_tup (dos_cons (do_ix ix_Z (dv 3) (do_bin op_subZ (dv 2) do_int) (fun _ _ => rfl)) dos_nil))))))))
theorem z_window_of (h : HF K mg) : FnZ P w K mg base 5 "window_of" [0, 0, 0] sp_window_of := by
  obtain ⟨f, fd, F, hm⟩ := h.f_window_of
  exact fnZ_of F hm (fun _ _ _ _ _ _ us hl => match us, hl with | [_, _, _], _ => rfl) sc_window_of rfl (by decide) (ds_window_of h f) fun _ _ _ _ q => q.run

theorem nd_windows : (n_windows).Nodup := by decide +kernel
theorem sc_windows : FnScope n_windows ["text", "length"] (defScope (top 22)) := ⟨rfl, rfl, rfl, by decide +kernel, rfl, by decide +kernel, by decide +kernel⟩
theorem ds_windows (h : HF K mg) : ∀ (f : Addr) (cdv : Value) (A : Around) (outer : List PySem.Env) (s : Shared) (H : Hp) (E : XK), Room 4 (A.deeper (envOfC "windows" (defScope (top 22)) s.heap.objs.size f cdv)) → DSs (cxD P w K mg base n_windows "windows" (defScope (top 22)) f cdv A outer s H E) ⟨K, none⟩ (fun cls d _ H => E cls d H) ⟨(n_windows).length, ioOf 0 [0, 0]⟩ (defBody (top 22)) w_windows := fun f cdv A outer s H E hr =>
  have hu := hr.units
  (dss_cons (dsn nd_windows 2 (do_call ((z_signs_of h).mono (by decide)) hr rfl takesD (dos_cons (dv 0) dos_nil))) (dss_cons (ds_expr (do_call ((z_check_number h).mono (by decide)) hr rfl takesD (dos_cons (dv 1) (dos_cons do_str (dos_cons do_int (dos_cons do_int dos_nil)))))) (dss_one (ds_ret (do_callT call_tupleZ rfl h.b_tuple (by decide +kernel) (dos_cons (do_lc rfl nd_windows (di_range1 rfl h.b_range (dos_cons (do_callBV call_lenZ rfl h.b_len (by decide +kernel) (dos_cons (dv 2) dos_nil)) dos_nil)) (own := [("at", 3)]) (blkOk_by (by rfl)) (fun _ _ _ _ _ => (pgn nd_windows 3)) (tg_name (show 3 < 4 by decide) (show 3 ∉ ([] : List Nat) by decide)) (by decide) (fun _ _ _ _ _ => dts_nil) (fun _ _ _ _ _ => (do_bin op_addZ (do_call ((z__node h).mono (by decide)) hr rfl takesF (dos_cons (dv 2) (dos_cons (dv 1) (dos_cons (dv 3) dos_nil)))) (do_tup (dos_cons (do_ix ix_Z (dv 2) (dv 3) (fun _ _ => rfl)) dos_nil))))) dos_nil))))))
theorem z_windows (h : HF K mg) : FnZ P w K mg base 5 "windows" [0, 0] sp_windows := by
  obtain ⟨f, fd, F, hm⟩ := h.f_windows
  exact fnZ_of F hm (fun _ _ _ _ _ _ us hl => match us, hl with | [_, _], _ => rfl) sc_windows rfl (by decide) (ds_windows h f) fun _ _ _ _ q => q.run

theorem nd_fits : (n_fits).Nodup := by decide +kernel
theorem sc_fits : FnScope n_fits ["window", "length"] (defScope (top 23)) := ⟨rfl, rfl, rfl, by decide +kernel, rfl, by decide +kernel, by decide +kernel⟩
theorem ds_fits (h : HF K mg) : ∀ (f : Addr) (cdv : Value) (A : Around) (outer : List PySem.Env) (s : Shared) (H : Hp) (E : XK), Room 3 (A.deeper (envOfC "fits" (defScope (top 23)) s.heap.objs.size f cdv)) → DSs (cxD P w K mg base n_fits "fits" (defScope (top 23)) f cdv A outer s H E) ⟨K, none⟩ (fun cls d _ H => E cls d H) ⟨(n_fits).length, ioOf 0 [0, 0]⟩ (defBody (top 23)) w_fits := fun f cdv A outer s H E hr =>
  have hu := hr.units
  (dss_cons (ds_expr (do_call ((z_check_number h).mono (by decide)) hr rfl takesD (dos_cons (dv 1) (dos_cons do_str (dos_cons do_int (dos_cons do_int dos_nil)))))) (dss_cons (ds_if (DW.dt (dw_or (dt_not (dt_val (do_callBV call_isiZ rfl h.b_isinstance (by decide +kernel) (dos_cons (dv 0) (dos_cons (do_bltn (v := .ty "tuple") rfl h.b_tuple (by decide +kernel) rfl rfl) dos_nil))) rfl)) (dw_or1 (dt_cmp op_ltZ (do_callBV call_lenZ rfl h.b_len (by decide +kernel) (dos_cons (dv 0) dos_nil)) do_int (by rfl))))) (dss_one (ds_ret do_bl)) dss_nil) (dss_cons (ds_if (dt_not (dt_val (do_callBV (call_allZ rfl) rfl h.b_all (by decide +kernel) (dos_cons (do_lc rfl nd_fits (di_tup (dv 0)) (own := [("sign", 3)]) (blkOk_by (by rfl)) (fun _ _ _ _ _ => (pgn nd_fits 3)) (tg_name (show 3 < 4 by decide) (show 3 ∉ ([] : List Nat) by decide)) (by decide) (fun _ _ _ _ _ => dts_nil) (fun _ _ _ _ _ => (do_call ((z_is_int h).mono (by decide)) hr rfl takesF (dos_cons (dv 3) dos_nil)))) dos_nil)) rfl)) (dss_one (ds_ret do_bl)) dss_nil) (dss_cons (ds_if (DW.dt (dw_and (dt_cmp (op_neZ hu) (do_ix ix_Z (dv 0) (do_un un_negZ do_int) (fun _ _ => rfl)) (do_glob (v := .int (-2)) rfl h.g_END.choose_spec ⟨_, rfl⟩ rfl) (by rfl)) (dw_and1 (dt_not (dt_val (do_call ((z_is_letter h).mono (by decide)) hr rfl takesD (dos_cons (do_ix ix_Z (dv 0) (do_un un_negZ do_int) (fun _ _ => rfl)) dos_nil)) rfl))))) (dss_one (ds_ret do_bl)) dss_nil) (dss_cons (dsn nd_fits 2 (do_slH (dv 0) (do_un un_negZ do_int))) (dss_cons (ds_if (dt_cmp (op_eqZ hu) (do_ix ix_Z (dv 2) do_int (fun _ _ => rfl)) (do_glob (v := .int (-1)) rfl h.g_HOME.choose_spec ⟨_, rfl⟩ rfl) (by rfl)) (dss_one (ds_ret (do_and (do_cmp op_ltZ (do_callBV call_lenZ rfl h.b_len (by decide +kernel) (dos_cons (dv 2) dos_nil)) (dv 1) (by rfl)) (do_one (do_callBV (call_allZ rfl) rfl h.b_all (by decide +kernel) (dos_cons (do_lc rfl nd_fits (di_tup (do_slL (dv 2) do_int)) (own := [("sign", 3)]) (blkOk_by (by rfl)) (fun _ _ _ _ _ => (pgn nd_fits 3)) (tg_name (show 3 < 4 by decide) (show 3 ∉ ([] : List Nat) by decide)) (by decide) (fun _ _ _ _ _ => dts_nil) (fun _ _ _ _ _ => (do_call ((z_is_letter h).mono (by decide)) hr rfl takesF (dos_cons (dv 3) dos_nil)))) dos_nil)))))) dss_nil) (dss_one (ds_ret (do_and (do_cmp (op_eqZ hu) (do_callBV call_lenZ rfl h.b_len (by decide +kernel) (dos_cons (dv 2) dos_nil)) (do_bin op_subZ (dv 1) do_int) (by rfl)) (do_one (do_callBV (call_allZ rfl) rfl h.b_all (by decide +kernel) (dos_cons (do_lc rfl nd_fits (di_tup (dv 2)) (own := [("sign", 3)]) (blkOk_by (by rfl)) (fun _ _ _ _ _ => (pgn nd_fits 3)) (tg_name (show 3 < 4 by decide) (show 3 ∉ ([] : List Nat) by decide)) (by decide) (fun _ _ _ _ _ => dts_nil) (fun _ _ _ _ _ => (do_call ((z_is_letter h).mono (by decide)) hr rfl takesF (dos_cons (dv 3) dos_nil)))) dos_nil))))))))))))
theorem z_fits (h : HF K mg) : FnZ P w K mg base 4 "fits" [0, 0] sp_fits := by
  obtain ⟨f, fd, F, hm⟩ := h.f_fits
  exact fnZ_of F hm (fun _ _ _ _ _ _ us hl => match us, hl with | [_, _], _ => rfl) sc_fits rfl (by decide) (ds_fits h f) fun _ _ _ _ q => q.run

theorem nd_tail_of : (n_tail_of).Nodup := by decide +kernel
theorem sc_tail_of : FnScope n_tail_of ["window", "length"] (defScope (top 24)) := ⟨rfl, rfl, rfl, by decide +kernel, rfl, by decide +kernel, by decide +kernel⟩
theorem ds_tail_of (h : HF K mg) : ∀ (f : Addr) (cdv : Value) (A : Around) (outer : List PySem.Env) (s : Shared) (H : Hp) (E : XK), Room 4 (A.deeper (envOfC "tail_of" (defScope (top 24)) s.heap.objs.size f cdv)) → DSs (cxD P w K mg base n_tail_of "tail_of" (defScope (top 24)) f cdv A outer s H E) ⟨K, none⟩ (fun cls d _ H => E cls d H) ⟨(n_tail_of).length, ioOf 0 [0, 0]⟩ (defBody (top 24)) w_tail_of := fun f cdv A outer s H E hr =>
  have hu := hr.units
  (dss_cons (ds_if (dt_not (dt_val (do_call ((z_fits h).mono (by decide)) hr rfl takesD (dos_cons (dv 0) (dos_cons (dv 1) dos_nil))) rfl)) (dss_one (ds_raise (h.exc_BadWindow P w base) (hr.mono (by decide)) rfl takesD rfl (dos_cons (do_un un_negZ do_int) dos_nil))) dss_nil) (dss_one (ds_ret (do_slH (dv 0) (do_un un_negZ do_int)))))
theorem z_tail_of (h : HF K mg) : FnZ P w K mg base 5 "tail_of" [0, 0] sp_tail_of := by
  obtain ⟨f, fd, F, hm⟩ := h.f_tail_of
  exact fnZ_of F hm (fun _ _ _ _ _ _ us hl => match us, hl with | [_, _], _ => rfl) sc_tail_of rfl (by decide) (ds_tail_of h f) fun _ _ _ _ q => q.run

theorem nd_head_of : (n_head_of).Nodup := by decide +kernel
theorem sc_head_of : FnScope n_head_of ["window", "length"] (defScope (top 25)) := ⟨rfl, rfl, rfl, by decide +kernel, rfl, by decide +kernel, by decide +kernel⟩
theorem ds_head_of (h : HF K mg) : ∀ (f : Addr) (cdv : Value) (A : Around) (outer : List PySem.Env) (s : Shared) (H : Hp) (E : XK), Room 4 (A.deeper (envOfC "head_of" (defScope (top 25)) s.heap.objs.size f cdv)) → DSs (cxD P w K mg base n_head_of "head_of" (defScope (top 25)) f cdv A outer s H E) ⟨K, none⟩ (fun cls d _ H => E cls d H) ⟨(n_head_of).length, ioOf 0 [0, 0]⟩ (defBody (top 25)) w_head_of := fun f cdv A outer s H E hr =>
  have hu := hr.units
  (dss_cons (ds_if (dt_not (dt_val (do_call ((z_fits h).mono (by decide)) hr rfl takesD (dos_cons (dv 0) (dos_cons (dv 1) dos_nil))) rfl)) (dss_one (ds_raise (h.exc_BadWindow P w base) (hr.mono (by decide)) rfl takesD rfl (dos_cons (do_un un_negZ do_int) dos_nil))) dss_nil) (dss_cons (ds_if (dt_cmp (op_eqZ hu) (do_ix ix_Z (dv 0) (do_un un_negZ do_int) (fun _ _ => rfl)) (do_glob (v := .int (-2)) rfl h.g_END.choose_spec ⟨_, rfl⟩ rfl) (by rfl)) (dss_one (ds_ret (do_tup (dos_cons (do_glob (v := .int (-1)) rfl h.g_HOME.choose_spec ⟨_, rfl⟩ rfl) dos_nil)))) dss_nil) (dss_one (ds_ret (do_slL (dv 0) (do_bin op_subZ do_int (dv 1)))))))
theorem z_head_of (h : HF K mg) : FnZ P w K mg base 5 "head_of" [0, 0] sp_head_of := by
  obtain ⟨f, fd, F, hm⟩ := h.f_head_of
  exact fnZ_of F hm (fun _ _ _ _ _ _ us hl => match us, hl with | [_, _], _ => rfl) sc_head_of rfl (by decide) (ds_head_of h f) fun _ _ _ _ q => q.run

theorem nd_cut_window : (n_cut_window).Nodup := by decide +kernel
theorem sc_cut_window : FnScope n_cut_window ["window", "length"] (defScope (top 26)) := ⟨rfl, rfl, rfl, by decide +kernel, rfl, by decide +kernel, by decide +kernel⟩
theorem ds_cut_window (h : HF K mg) : ∀ (f : Addr) (cdv : Value) (A : Around) (outer : List PySem.Env) (s : Shared) (H : Hp) (E : XK), Room 4 (A.deeper (envOfC "cut_window" (defScope (top 26)) s.heap.objs.size f cdv)) → DSs (cxD P w K mg base n_cut_window "cut_window" (defScope (top 26)) f cdv A outer s H E) ⟨K, none⟩ (fun cls d _ H => E cls d H) ⟨(n_cut_window).length, ioOf 0 [0, 0]⟩ (defBody (top 26)) w_cut_window := fun f cdv A outer s H E hr =>
  have hu := hr.units
  (dss_cons (ds_expr (do_call ((z_check_number h).mono (by decide)) hr rfl takesD (dos_cons (dv 1) (dos_cons do_str (dos_cons do_int (dos_cons do_int dos_nil)))))) (dss_cons (ds_if (dt_not (dt_val (do_call ((z_fits h).mono (by decide)) hr rfl takesD (dos_cons (dv 0) (dos_cons (do_bin op_addZ (dv 1) do_int) dos_nil))) rfl)) (dss_one (ds_raise (h.exc_BadWindow P w base) (hr.mono (by decide)) rfl takesD rfl (dos_cons (do_un un_negZ do_int) dos_nil))) dss_nil) (dss_cons (ds_if (dt_cmp (op_eqZ hu) (do_callBV call_lenZ rfl h.b_len (by decide +kernel) (dos_cons (dv 0) dos_nil)) (do_bin op_addZ (dv 1) do_int) (by rfl)) (dss_one (ds_ret (do_slL (dv 0) do_int))) dss_nil) (dss_one (ds_ret (dv 0))))))
theorem z_cut_window (h : HF K mg) : FnZ P w K mg base 5 "cut_window" [0, 0] sp_cut_window := by
  obtain ⟨f, fd, F, hm⟩ := h.f_cut_window
  exact fnZ_of F hm (fun _ _ _ _ _ _ us hl => match us, hl with | [_, _], _ => rfl) sc_cut_window rfl (by decide) (ds_cut_window h f) fun _ _ _ _ q => q.run

theorem nd__law_draws : (n__law_draws).Nodup := by decide +kernel
theorem sc__law_draws : FnScope n__law_draws ["script"] (defScope (top 28)) := ⟨rfl, rfl, rfl, by decide +kernel, rfl, by decide +kernel, by decide +kernel⟩
theorem ds__law_draws (h : HF K mg) : ∀ (f : Addr) (cdv : Value) (A : Around) (outer : List PySem.Env) (s : Shared) (H : Hp) (E : XK), Room 0 (A.deeper (envOfC "_law_draws" (defScope (top 28)) s.heap.objs.size f cdv)) → DSs (cxD P w K mg base n__law_draws "_law_draws" (defScope (top 28)) f cdv A outer s H E) ⟨K, none⟩ (fun cls d _ H => E cls d H) ⟨(n__law_draws).length, ioOf 0 [0]⟩ (defBody (top 28)) w__law_draws := fun f cdv A outer s H E hr =>
  have hu := hr.units
  (dss_cons (dsn nd__law_draws 1 (do_lst dos_nil)) (dss_cons (ds_for passesD rfl (di_range1 rfl h.b_range (dos_cons (do_callBV (call_min2Z rfl) rfl h.b_min (by decide +kernel) (dos_cons (do_callBV call_lenZ rfl h.b_len (by decide +kernel) (dos_cons (dv 0) dos_nil)) (dos_cons do_int dos_nil))) dos_nil)) (pgn nd__law_draws 2) (tg_name (show 2 < 5 by decide) (show 2 ∉ ([] : List Nat) by decide)) (dss_cons (dsn nd__law_draws 3 (do_callTV call_intZ rfl h.b_int (by decide +kernel) (dos_cons (do_ix ix_Z (dv 0) (dv 2) (fun _ _ => rfl)) dos_nil))) (dss_cons (ds_if (dt_cmp op_ltZ (dv 3) do_int (by rfl)) (dss_one (dsn nd__law_draws 3 (do_bin op_subZ do_int (dv 3)))) dss_nil) (dss_one (ds_for passesD rfl (di_range1 rfl h.b_range (dos_cons do_int dos_nil)) (pgn nd__law_draws 4) (tg_name (show 4 < 5 by decide) (show 4 ∉ ([] : List Nat) by decide)) (dss_one (ds_if (dt_cmp op_gtZ (dv 3) do_int (by rfl)) (dss_cons (ds_expr (do_mt (i := 1) PySem.F.slot_list_append PySem.F.type_list_append mt_appZ rfl (by first | exact Or.inl rfl | exact Or.inr (Or.inl rfl) | exact Or.inr (Or.inr rfl)) (dos_cons (do_bin op_modZ (do_callTV call_intZ rfl h.b_int (by decide +kernel) (dos_cons (dv 3) dos_nil)) do_int) dos_nil))) (dss_one (dsn nd__law_draws 3 (do_bin op_divZ (dv 3) do_int)))) dss_nil))))))) (dss_cons (ds_expr (dm0 1 PySem.F.slot_list_reverse PySem.F.type_list_reverse mt_revZ)) (dss_one (ds_ret (dv 1))))))
theorem z__law_draws (h : HF K mg) : FnZ P w K mg base 1 "_law_draws" [0] sp__law_draws := by
  obtain ⟨f, fd, F, hm⟩ := h.f__law_draws
  exact fnZ_of F hm (fun _ _ _ _ _ _ us hl => match us, hl with | [_], _ => rfl) sc__law_draws rfl (by decide) (ds__law_draws h f) fun _ _ _ _ q => q.run

theorem nd__law_take : (n__law_take).Nodup := by decide +kernel
theorem sc__law_take : FnScope n__law_take ["draws", "many"] (defScope (top 29)) := ⟨rfl, rfl, rfl, by decide +kernel, rfl, by decide +kernel, by decide +kernel⟩
theorem ds__law_take (h : HF K mg) : ∀ (f : Addr) (cdv : Value) (A : Around) (outer : List PySem.Env) (s : Shared) (H : Hp) (E : XK), Room 0 (A.deeper (envOfC "_law_take" (defScope (top 29)) s.heap.objs.size f cdv)) → DSs (cxD P w K mg base n__law_take "_law_take" (defScope (top 29)) f cdv A outer s H E) ⟨K, none⟩ (fun cls d _ H => E cls d H) ⟨(n__law_take).length, ioOf 0 [1, 0]⟩ (defBody (top 29)) w__law_take := fun f cdv A outer s H E hr =>
  have hu := hr.units
  (dss_cons (ds_if (dt_cmp (op_eqZ hu) (do_callBV call_lenZ rfl h.b_len (by decide +kernel) (dos_cons (dv 0) dos_nil)) do_int (by rfl)) (dss_one (ds_ret do_int)) dss_nil) (dss_one (ds_ret (do_bin op_modZ (do_callTV call_intZ rfl h.b_int (by decide +kernel) (dos_cons (dm0 0 PySem.F.slot_list_pop PySem.F.type_list_pop mt_popZ) dos_nil)) (dv 1)))))
theorem z__law_take (h : HF K mg) : FnZ P w K mg base 1 "_law_take" [1, 0] sp__law_take := by
  obtain ⟨f, fd, F, hm⟩ := h.f__law_take
  exact fnZ_of F hm (fun _ _ _ _ _ _ us hl => match us, hl with | [_, _], _ => rfl) sc__law_take rfl (by decide) (ds__law_take h f) fun _ _ _ _ q => q.run

theorem nd__law_int : (n__law_int).Nodup := by decide +kernel
theorem sc__law_int : FnScope n__law_int ["value"] (defScope (top 30)) := ⟨rfl, rfl, rfl, by decide +kernel, rfl, by decide +kernel, by decide +kernel⟩
theorem ds__law_int (h : HF K mg) : ∀ (f : Addr) (cdv : Value) (A : Around) (outer : List PySem.Env) (s : Shared) (H : Hp) (E : XK), Room 0 (A.deeper (envOfC "_law_int" (defScope (top 30)) s.heap.objs.size f cdv)) → DSs (cxD P w K mg base n__law_int "_law_int" (defScope (top 30)) f cdv A outer s H E) ⟨K, none⟩ (fun cls d _ H => E cls d H) ⟨(n__law_int).length, ioOf 0 [0]⟩ (defBody (top 30)) w__law_int := fun f cdv A outer s H E hr =>
  have hu := hr.units
  (dss_one (ds_ret (do_and (do_callBV call_isiZ rfl h.b_isinstance (by decide +kernel) (dos_cons (dv 0) (dos_cons (do_bltn (v := .ty "int") rfl h.b_int (by decide +kernel) rfl rfl) dos_nil))) (do_one (do_not (do_callBV call_isiZ rfl h.b_isinstance (by decide +kernel) (dos_cons (dv 0) (dos_cons (do_bltn (v := .ty "bool") rfl h.b_bool (by decide +kernel) rfl rfl) dos_nil))))))))
theorem z__law_int (h : HF K mg) : FnZ P w K mg base 1 "_law_int" [0] sp__law_int := by
  obtain ⟨f, fd, F, hm⟩ := h.f__law_int
  exact fnZ_of F hm (fun _ _ _ _ _ _ us hl => match us, hl with | [_], _ => rfl) sc__law_int rfl (by decide) (ds__law_int h f) fun _ _ _ _ q => q.run

theorem nd__law_letters : (n__law_letters).Nodup := by decide +kernel
theorem sc__law_letters : FnScope n__law_letters ["draws", "many"] (defScope (top 31)) := ⟨rfl, rfl, rfl, by decide +kernel, rfl, by decide +kernel, by decide +kernel⟩
theorem ds__law_letters (h : HF K mg) : ∀ (f : Addr) (cdv : Value) (A : Around) (outer : List PySem.Env) (s : Shared) (H : Hp) (E : XK), Room 1 (A.deeper (envOfC "_law_letters" (defScope (top 31)) s.heap.objs.size f cdv)) → DSs (cxD P w K mg base n__law_letters "_law_letters" (defScope (top 31)) f cdv A outer s H E) ⟨K, none⟩ (fun cls d _ H => E cls d H) ⟨(n__law_letters).length, ioOf 0 [1, 0]⟩ (defBody (top 31)) w__law_letters := fun f cdv A outer s H E hr =>
  have hu := hr.units
  (dss_cons (dsn nd__law_letters 2 (do_bin op_addZ do_int (do_bin op_mulZ do_int (do_call ((z__law_take h).mono (by decide)) hr rfl takesD (dos_cons (dv 0) (dos_cons do_int dos_nil)))))) (dss_cons (ds_if (dt_cmp (op_eqZ hu) (do_bin op_modZ (dv 2) do_int) do_int (by rfl)) (dss_one (dsn nd__law_letters 2 (do_bin op_addZ (dv 2) do_int))) dss_nil) (dss_cons (dsn nd__law_letters 3 (do_bin op_addZ (do_bin op_mulZ (do_call ((z__law_take h).mono (by decide)) hr rfl takesD (dos_cons (dv 0) (dos_cons do_int dos_nil))) do_int) (do_call ((z__law_take h).mono (by decide)) hr rfl takesD (dos_cons (dv 0) (dos_cons do_int dos_nil))))) (dss_one (ds_ret (do_lc rfl nd__law_letters (di_range1 rfl h.b_range (dos_cons (dv 1) dos_nil)) (own := [("place", 4)]) (blkOk_by (by rfl)) (fun _ _ _ _ _ => (pgn nd__law_letters 4)) (tg_name (show 4 < 5 by decide) (show 4 ∉ ([] : List Nat) by decide)) (by decide) (fun _ _ _ _ _ => dts_nil) (fun _ _ _ _ _ => (do_bin op_modZ (do_callTV call_intZ rfl h.b_int (by decide +kernel) (dos_cons (do_bin op_addZ (dv 3) (do_bin op_mulZ (dv 2) (dv 4))) dos_nil)) do_int))))))))
theorem z__law_letters (h : HF K mg) : FnZ P w K mg base 2 "_law_letters" [1, 0] sp__law_letters := by
  obtain ⟨f, fd, F, hm⟩ := h.f__law_letters
  exact fnZ_of F hm (fun _ _ _ _ _ _ us hl => match us, hl with | [_, _], _ => rfl) sc__law_letters rfl (by decide) (ds__law_letters h f) fun _ _ _ _ q => q.run

theorem nd__law_row : (n__law_row).Nodup := by decide +kernel
theorem sc__law_row : FnScope n__law_row ["draws", "pool", "most"] (defScope (top 32)) := ⟨rfl, rfl, rfl, by decide +kernel, rfl, by decide +kernel, by decide +kernel⟩
theorem ds__law_row (h : HF K mg) : ∀ (f : Addr) (cdv : Value) (A : Around) (outer : List PySem.Env) (s : Shared) (H : Hp) (E : XK), Room 1 (A.deeper (envOfC "_law_row" (defScope (top 32)) s.heap.objs.size f cdv)) → DSs (cxD P w K mg base n__law_row "_law_row" (defScope (top 32)) f cdv A outer s H E) ⟨K, none⟩ (fun cls d _ H => E cls d H) ⟨(n__law_row).length, ioOf 0 [1, 0, 0]⟩ (defBody (top 32)) w__law_row := fun f cdv A outer s H E hr =>
  have hu := hr.units
  (dss_one (ds_ret (do_lc rfl nd__law_row (di_range1 rfl h.b_range (dos_cons (do_call ((z__law_take h).mono (by decide)) hr rfl takesD (dos_cons (dv 0) (dos_cons (do_bin op_addZ (dv 2) do_int) dos_nil))) dos_nil)) (own := [("turn", 3)]) (blkOk_by (by rfl)) (fun _ _ _ _ _ => (pgn nd__law_row 3)) (tg_name (show 3 < 4 by decide) (show 3 ∉ ([] : List Nat) by decide)) (by decide) (fun _ _ _ _ _ => dts_nil) (fun _ _ _ _ _ => (do_ix ix_Z (dv 1) (do_call ((z__law_take h).mono (by decide)) hr rfl takesF (dos_cons (dv 0) (dos_cons (do_callBV call_lenZ rfl h.b_len (by decide +kernel) (dos_cons (dv 1) dos_nil)) dos_nil))) (fun _ _ => rfl))))))
theorem z__law_row (h : HF K mg) : FnZ P w K mg base 2 "_law_row" [1, 0, 0] sp__law_row := by
  obtain ⟨f, fd, F, hm⟩ := h.f__law_row
  exact fnZ_of F hm (fun _ _ _ _ _ _ us hl => match us, hl with | [_, _, _], _ => rfl) sc__law_row rfl (by decide) (ds__law_row h f) fun _ _ _ _ q => q.run

theorem nd__law_chain : (n__law_chain).Nodup := by decide +kernel
theorem sc__law_chain : FnScope n__law_chain ["many"] (defScope (top 33)) := ⟨rfl, rfl, rfl, by decide +kernel, rfl, by decide +kernel, by decide +kernel⟩
theorem ds__law_chain (h : HF K mg) : ∀ (f : Addr) (cdv : Value) (A : Around) (outer : List PySem.Env) (s : Shared) (H : Hp) (E : XK), Room 0 (A.deeper (envOfC "_law_chain" (defScope (top 33)) s.heap.objs.size f cdv)) → DSs (cxD P w K mg base n__law_chain "_law_chain" (defScope (top 33)) f cdv A outer s H E) ⟨K, none⟩ (fun cls d _ H => E cls d H) ⟨(n__law_chain).length, ioOf 0 [0]⟩ (defBody (top 33)) w__law_chain := fun f cdv A outer s H E hr =>
  have hu := hr.units
  (dss_cons (dsn nd__law_chain 1 (do_lst (dos_cons do_int dos_nil))) (dss_cons (ds_for passesD rfl (di_range2 rfl h.b_range (dos_cons do_int (dos_cons (dv 0) dos_nil))) (pgn nd__law_chain 2) (tg_name (show 2 < 3 by decide) (show 2 ∉ ([] : List Nat) by decide)) (dss_one (dsn nd__law_chain 1 (do_bin op_addZ (dv 1) (do_lst (dos_cons (dv 2) (dos_cons (do_bin op_subZ (dv 2) do_int) dos_nil))))))) (dss_one (ds_ret (do_bin op_addZ (dv 1) (do_lst (dos_cons (do_bin op_subZ (dv 0) do_int) dos_nil)))))))
theorem z__law_chain (h : HF K mg) : FnZ P w K mg base 1 "_law_chain" [0] sp__law_chain := by
  obtain ⟨f, fd, F, hm⟩ := h.f__law_chain
  exact fnZ_of F hm (fun _ _ _ _ _ _ us hl => match us, hl with | [_], _ => rfl) sc__law_chain rfl (by decide) (ds__law_chain h f) fun _ _ _ _ q => q.run

theorem nd__law_parted : (n__law_parted).Nodup := by decide +kernel
theorem sc__law_parted : FnScope n__law_parted ["row", "first"] (defScope (top 34)) := ⟨rfl, rfl, rfl, by decide +kernel, rfl, by decide +kernel, by decide +kernel⟩
theorem ds__law_parted (h : HF K mg) : ∀ (f : Addr) (cdv : Value) (A : Around) (outer : List PySem.Env) (s : Shared) (H : Hp) (E : XK), Room 0 (A.deeper (envOfC "_law_parted" (defScope (top 34)) s.heap.objs.size f cdv)) → DSs (cxD P w K mg base n__law_parted "_law_parted" (defScope (top 34)) f cdv A outer s H E) ⟨K, none⟩ (fun cls d _ H => E cls d H) ⟨(n__law_parted).length, ioOf 0 [0, 0]⟩ (defBody (top 34)) w__law_parted := fun f cdv A outer s H E hr =>
  have hu := hr.units
  (dss_cons (dsn nd__law_parted 2 (do_lst dos_nil)) (dss_cons (ds_for passesD rfl (di_range1 rfl h.b_range (dos_cons (do_callBV call_lenZ rfl h.b_len (by decide +kernel) (dos_cons (dv 0) dos_nil)) dos_nil)) (pgn nd__law_parted 3) (tg_name (show 3 < 4 by decide) (show 3 ∉ ([] : List Nat) by decide)) (dss_one (dsn nd__law_parted 2 (do_bin op_addZ (dv 2) (do_lst (dos_cons (do_ix ix_Z (dv 0) (dv 3) (fun _ _ => rfl)) (dos_cons (do_bin op_addZ (dv 1) (dv 3)) dos_nil))))))) (dss_one (ds_ret (dv 2)))))
theorem z__law_parted (h : HF K mg) : FnZ P w K mg base 1 "_law_parted" [0, 0] sp__law_parted := by
  obtain ⟨f, fd, F, hm⟩ := h.f__law_parted
  exact fnZ_of F hm (fun _ _ _ _ _ _ us hl => match us, hl with | [_, _], _ => rfl) sc__law_parted rfl (by decide) (ds__law_parted h f) fun _ _ _ _ q => q.run

theorem nd__law_closed : (n__law_closed).Nodup := by decide +kernel
theorem sc__law_closed : FnScope n__law_closed ["word", "many"] (defScope (top 35)) := ⟨rfl, rfl, rfl, by decide +kernel, rfl, by decide +kernel, by decide +kernel⟩
theorem ds__law_closed (h : HF K mg) : ∀ (f : Addr) (cdv : Value) (A : Around) (outer : List PySem.Env) (s : Shared) (H : Hp) (E : XK), Room 1 (A.deeper (envOfC "_law_closed" (defScope (top 35)) s.heap.objs.size f cdv)) → DSs (cxD P w K mg base n__law_closed "_law_closed" (defScope (top 35)) f cdv A outer s H E) ⟨K, none⟩ (fun cls d _ H => E cls d H) ⟨(n__law_closed).length, ioOf 0 [0, 0]⟩ (defBody (top 35)) w__law_closed := fun f cdv A outer s H E hr =>
  have hu := hr.units
  (dss_cons (dsn nd__law_closed 2 (do_lr1 rfl rfl h.b_list rfl h.b_range (dv 1))) (dss_cons (ds_if (dt_cmp (op_eqZ hu) (dv 0) do_int (by rfl)) (dss_one (dsn nd__law_closed 3 (do_call ((z__law_chain h).mono (by decide)) hr rfl takesD (dos_cons (dv 1) dos_nil)))) (dss_one (ds_if (dt_cmp (op_eqZ hu) (dv 0) do_int (by rfl)) (dss_one (dsn nd__law_closed 3 (do_bin op_addZ (dv 2) (dv 2)))) (dss_one (ds_if (dt_cmp (op_eqZ hu) (dv 0) do_int (by rfl)) (dss_cons (dsn nd__law_closed 3 (do_lst dos_nil)) (dss_one (ds_for passesD rfl (di_range1 rfl h.b_range (dos_cons (do_bin op_divZ (dv 1) do_int) dos_nil)) (pgn nd__law_closed 4) (tg_name (show 4 < 5 by decide) (show 4 ∉ ([] : List Nat) by decide)) (dss_one (dsn nd__law_closed 3 (do_bin op_addZ (dv 3) (do_lst (dos_cons (do_bin op_mulZ do_int (dv 4)) (dos_cons (do_bin op_addZ (do_bin op_mulZ do_int (dv 4)) do_int) (dos_cons (do_bin op_mulZ do_int (dv 4)) (dos_cons (do_bin op_addZ (do_bin op_mulZ do_int (dv 4)) do_int) dos_nil))))))))))) (dss_one (ds_setLc (i := 3) rfl nd__law_closed rfl rfl (by decide) rfl (di_range1 rfl h.b_range (dos_cons (do_bin op_addZ (dv 1) do_int) dos_nil)) (own := [("turn", 4)]) (blkOk_by (by rfl)) (fun _ _ _ _ _ => (pgn nd__law_closed 4)) (tg_name (show 4 < 5 by decide) (show 4 ∉ ([] : List Nat) by decide)) (by decide) (fun _ _ _ _ _ => dts_nil) (fun _ _ _ _ _ => do_int)))))))) (dss_one (ds_ret (do_call ((z__law_parted h).mono (by decide)) hr rfl takesD (dos_cons (dv 3) (dos_cons (dv 1) dos_nil)))))))
theorem z__law_closed (h : HF K mg) : FnZ P w K mg base 2 "_law_closed" [0, 0] sp__law_closed := by
  obtain ⟨f, fd, F, hm⟩ := h.f__law_closed
  exact fnZ_of F hm (fun _ _ _ _ _ _ us hl => match us, hl with | [_, _], _ => rfl) sc__law_closed rfl (by decide) (ds__law_closed h f) fun _ _ _ _ q => q.run

theorem nd__law_made : (n__law_made).Nodup := by decide +kernel
theorem sc__law_made : FnScope n__law_made ["draws", "word", "length", "pool"] (defScope (top 37)) := ⟨rfl, rfl, rfl, by decide +kernel, rfl, by decide +kernel, by decide +kernel⟩
theorem ds__law_made (h : HF K mg) : ∀ (f : Addr) (cdv : Value) (A : Around) (outer : List PySem.Env) (s : Shared) (H : Hp) (E : XK), Room 2 (A.deeper (envOfC "_law_made" (defScope (top 37)) s.heap.objs.size f cdv)) → DSs (cxD P w K mg base n__law_made "_law_made" (defScope (top 37)) f cdv A outer s H E) ⟨K, none⟩ (fun cls d _ H => E cls d H) ⟨(n__law_made).length, ioOf 0 [1, 0, 0, 0]⟩ (defBody (top 37)) w__law_made := fun f cdv A outer s H E hr =>
  have hu := hr.units
  (dss_cons (ds_if (dt_cmp (op_eqZ hu) (dv 1) do_int (by rfl)) (dss_cons (dsn nd__law_made 4 (do_bin op_addZ do_int (do_call ((z__law_take h).mono (by decide)) hr rfl takesD (dos_cons (dv 0) (dos_cons do_int dos_nil))))) (dss_one (ds_ret (do_bin op_addZ (do_bin op_addZ (do_lc rfl nd__law_made (di_range1 rfl h.b_range (dos_cons (dv 4) dos_nil)) (own := [("turn", 13)]) (blkOk_by (by rfl)) (fun _ _ _ _ _ => (pgn nd__law_made 13)) (tg_name (show 13 < 15 by decide) (show 13 ∉ ([] : List Nat) by decide)) (by decide) (fun _ _ _ _ _ => dts_nil) (fun _ _ _ _ _ => (do_ix ix_Z (dv 3) do_int (fun _ _ => rfl)))) (do_lst (dos_cons (do_ix ix_Z (dv 3) (do_un un_negZ do_int) (fun _ _ => rfl)) dos_nil))) (do_lc rfl nd__law_made (di_range1 rfl h.b_range (dos_cons (do_call ((z__law_take h).mono (by decide)) hr rfl takesD (dos_cons (dv 0) (dos_cons do_int dos_nil))) dos_nil)) (own := [("turn", 13)]) (blkOk_by (by rfl)) (fun _ _ _ _ _ => (pgn nd__law_made 13)) (tg_name (show 13 < 15 by decide) (show 13 ∉ ([] : List Nat) by decide)) (by decide) (fun _ _ _ _ _ => dts_nil) (fun _ _ _ _ _ => (do_ix ix_Z (dv 3) do_int (fun _ _ => rfl)))))))) dss_nil) (dss_cons (ds_if (dt_cmp (op_eqZ hu) (dv 1) do_int (by rfl)) (dss_cons (dsn nd__law_made 5 (do_bin op_addZ (do_call ((z__law_row h).mono (by decide)) hr rfl takesD (dos_cons (dv 0) (dos_cons (dv 3) (dos_cons do_int dos_nil)))) (do_lst (dos_cons (do_ix ix_Z (dv 3) do_int (fun _ _ => rfl)) dos_nil)))) (dss_cons (dsn nd__law_made 5 (do_bin op_addZ (do_bin op_mulZ (dv 5) (do_bin op_addZ do_int (do_call ((z__law_take h).mono (by decide)) hr rfl takesD (dos_cons (dv 0) (dos_cons do_int dos_nil))))) (do_slH (dv 5) (do_call ((z__law_take h).mono (by decide)) hr rfl takesD (dos_cons (dv 0) (dos_cons do_int dos_nil)))))) (dss_one (ds_ret (do_bin op_addZ (do_bin op_addZ (do_call ((z__law_row h).mono (by decide)) hr rfl takesD (dos_cons (dv 0) (dos_cons (dv 3) (dos_cons do_int dos_nil)))) (dv 5)) (do_call ((z__law_row h).mono (by decide)) hr rfl takesD (dos_cons (dv 0) (dos_cons (dv 3) (dos_cons do_int dos_nil))))))))) dss_nil) (dss_cons (ds_if (dt_cmp (op_eqZ hu) (dv 1) do_int (by rfl)) (dss_cons (dsn nd__law_made 6 (do_bin op_mulZ (do_lst (dos_cons (do_ix ix_Z (dv 3) do_int (fun _ _ => rfl)) dos_nil)) (do_bin op_subZ (dv 2) do_int))) (dss_cons (dsn nd__law_made 7 (do_bin op_addZ (do_bin op_mulZ (do_lst (dos_cons (do_ix ix_Z (dv 3) (do_un un_negZ do_int) (fun _ _ => rfl)) dos_nil)) (do_bin op_subZ (dv 2) do_int)) (do_lst (dos_cons (do_call ((z__law_take h).mono (by decide)) hr rfl takesD (dos_cons (dv 0) (dos_cons do_int dos_nil))) dos_nil)))) (dss_cons (ds_setLc (i := 8) rfl nd__law_made rfl rfl (by decide) rfl (di_range1 rfl h.b_range (dos_cons do_int dos_nil)) (own := [("turn", 13)]) (blkOk_by (by rfl)) (fun _ _ _ _ _ => (pgn nd__law_made 13)) (tg_name (show 13 < 15 by decide) (show 13 ∉ ([] : List Nat) by decide)) (by decide) (fun _ _ _ _ _ => dts_nil) (fun _ _ _ _ _ => (do_call ((z__law_row h).mono (by decide)) hr rfl takesF (dos_cons (dv 0) (dos_cons (dv 3) (dos_cons do_int dos_nil)))))) (dss_one (ds_ret (do_bin op_addZ (do_bin op_addZ (do_bin op_addZ (do_bin op_addZ (do_bin op_addZ (do_bin op_addZ (do_bin op_addZ (dv 6) (do_ix ix_Z (dv 8) do_int (fun _ _ => rfl))) (dv 7)) (do_ix ix_Z (dv 8) do_int (fun _ _ => rfl))) (dv 6)) (do_ix ix_Z (dv 8) do_int (fun _ _ => rfl))) (dv 7)) (do_call ((z__law_row h).mono (by decide)) hr rfl takesD (dos_cons (dv 0) (dos_cons (dv 3) (dos_cons do_int dos_nil)))))))))) dss_nil) (dss_cons (ds_if (dt_cmp (op_eqZ hu) (dv 1) do_int (by rfl)) (dss_cons (dsn nd__law_made 6 (do_bin op_addZ (do_call ((z__law_row h).mono (by decide)) hr rfl takesD (dos_cons (dv 0) (dos_cons (dv 3) (dos_cons do_int dos_nil)))) (do_bin op_mulZ (do_lst (dos_cons (do_ix ix_Z (dv 3) do_int (fun _ _ => rfl)) dos_nil)) (do_bin op_subZ (dv 2) do_int)))) (dss_cons (ds_setLc (i := 8) rfl nd__law_made rfl rfl (by decide) rfl (di_range1 rfl h.b_range (dos_cons do_int dos_nil)) (own := [("turn", 13)]) (blkOk_by (by rfl)) (fun _ _ _ _ _ => (pgn nd__law_made 13)) (tg_name (show 13 < 15 by decide) (show 13 ∉ ([] : List Nat) by decide)) (by decide) (fun _ _ _ _ _ => dts_nil) (fun _ _ _ _ _ => (do_call ((z__law_row h).mono (by decide)) hr rfl takesF (dos_cons (dv 0) (dos_cons (dv 3) (dos_cons do_int dos_nil)))))) (dss_cons (ds_if (dt_cmp (op_eqZ hu) (do_call ((z__law_take h).mono (by decide)) hr rfl takesD (dos_cons (dv 0) (dos_cons do_int dos_nil))) do_int (by rfl)) (dss_one (ds_store (i := 8) rfl (by first | exact Or.inl rfl | exact Or.inr (Or.inl rfl) | exact Or.inr (Or.inr rfl)) do_int (do_ix ix_Z (dv 8) do_int (fun _ _ => rfl)))) dss_nil) (dss_one (ds_ret (do_bin op_addZ (do_bin op_addZ (do_bin op_addZ (do_bin op_addZ (do_bin op_addZ (do_bin op_addZ (dv 6) (do_ix ix_Z (dv 8) do_int (fun _ _ => rfl))) (dv 6)) (do_ix ix_Z (dv 8) do_int (fun _ _ => rfl))) (dv 6)) (do_ix ix_Z (dv 8) do_int (fun _ _ => rfl))) (dv 6))))))) dss_nil) (dss_cons (ds_if (dt_cmp op_leZ (dv 1) do_int (by rfl)) (dss_cons (dsn nd__law_made 5 (do_call ((z__law_closed h).mono (by decide)) hr rfl takesD (dos_cons (do_bin op_subZ (dv 1) do_int) (dos_cons (do_bin op_addZ do_int (do_call ((z__law_take h).mono (by decide)) hr rfl takesD (dos_cons (dv 0) (dos_cons do_int dos_nil)))) dos_nil)))) (dss_cons (dsn nd__law_made 9 (do_call ((z__law_letters h).mono (by decide)) hr rfl takesD (dos_cons (dv 0) (dos_cons do_int dos_nil)))) (dss_one (ds_ret (do_lc rfl nd__law_made (di_list (dv 5)) (own := [("place", 14)]) (blkOk_by (by rfl)) (fun _ _ _ _ _ => (pgn nd__law_made 14)) (tg_name (show 14 < 15 by decide) (show 14 ∉ ([] : List Nat) by decide)) (by decide) (fun _ _ _ _ _ => dts_nil) (fun _ _ _ _ _ => (do_ix ix_Z (dv 9) (dv 14) (fun _ _ => rfl)))))))) dss_nil) (dss_cons (dsn nd__law_made 5 (do_bin op_addZ (do_call ((z__law_row h).mono (by decide)) hr rfl takesD (dos_cons (dv 0) (dos_cons (dv 3) (dos_cons do_int dos_nil)))) (do_lst (dos_cons (do_ix ix_Z (dv 3) do_int (fun _ _ => rfl)) dos_nil)))) (dss_cons (dsn nd__law_made 10 (do_call ((z__law_take h).mono (by decide)) hr rfl takesD (dos_cons (dv 0) (dos_cons (do_callBV call_lenZ rfl h.b_len (by decide +kernel) (dos_cons (dv 5) dos_nil)) dos_nil)))) (dss_cons (dsn nd__law_made 11 (do_bin op_addZ (do_bin op_addZ (dv 10) do_int) (do_call ((z__law_take h).mono (by decide)) hr rfl takesD (dos_cons (dv 0) (dos_cons (do_bin op_subZ (do_callBV call_lenZ rfl h.b_len (by decide +kernel) (dos_cons (dv 5) dos_nil)) (dv 10)) dos_nil))))) (dss_cons (dsn nd__law_made 12 (do_call ((z__law_take h).mono (by decide)) hr rfl takesD (dos_cons (dv 0) (dos_cons (do_bin op_addZ (do_callBV call_lenZ rfl h.b_len (by decide +kernel) (dos_cons (dv 5) dos_nil)) do_int) dos_nil)))) (dss_one (ds_ret (do_bin op_addZ (do_bin op_addZ (do_slH (dv 5) (dv 12)) (do_sl2 (dv 5) (dv 10) (dv 11))) (do_slL (dv 5) (dv 12))))))))))))))
theorem z__law_made (h : HF K mg) : FnZ P w K mg base 3 "_law_made" [1, 0, 0, 0] sp__law_made := by
  obtain ⟨f, fd, F, hm⟩ := h.f__law_made
  exact fnZ_of F hm (fun _ _ _ _ _ _ us hl => match us, hl with | [_, _, _, _], _ => rfl) sc__law_made rfl (by decide) (ds__law_made h f) fun _ _ _ _ q => q.run

theorem nd__law_text : (n__law_text).Nodup := by decide +kernel
theorem sc__law_text : FnScope n__law_text ["draws", "length"] (defScope (top 36)) := ⟨rfl, rfl, rfl, by decide +kernel, rfl, by decide +kernel, by decide +kernel⟩
theorem ds__law_text (h : HF K mg) : ∀ (f : Addr) (cdv : Value) (A : Around) (outer : List PySem.Env) (s : Shared) (H : Hp) (E : XK), Room 3 (A.deeper (envOfC "_law_text" (defScope (top 36)) s.heap.objs.size f cdv)) → DSs (cxD P w K mg base n__law_text "_law_text" (defScope (top 36)) f cdv A outer s H E) ⟨K, none⟩ (fun cls d _ H => E cls d H) ⟨(n__law_text).length, ioOf 0 [1, 0]⟩ (defBody (top 36)) w__law_text := fun f cdv A outer s H E hr =>
  have hu := hr.units
  (dss_cons (dsn nd__law_text 2 (do_call ((z__law_take h).mono (by decide)) hr rfl takesD (dos_cons (dv 0) (dos_cons do_int dos_nil)))) (dss_cons (dsn nd__law_text 3 (do_call ((z__law_letters h).mono (by decide)) hr rfl takesD (dos_cons (dv 0) (dos_cons (do_bin op_addZ do_int (do_call ((z__law_take h).mono (by decide)) hr rfl takesD (dos_cons (dv 0) (dos_cons do_int dos_nil)))) dos_nil)))) (dss_cons (ds_if (dt_cmp (op_eqZ hu) (dv 2) do_int (by rfl)) (dss_one (ds_ret (do_call ((z__law_row h).mono (by decide)) hr rfl takesD (dos_cons (dv 0) (dos_cons (dv 3) (dos_cons do_int dos_nil)))))) dss_nil) (dss_cons (ds_if (dt_cmp (op_eqZ hu) (dv 2) do_int (by rfl)) (dss_cons (dsn nd__law_text 4 (do_call ((z__law_made h).mono (by decide)) hr rfl takesD (dos_cons (dv 0) (dos_cons (do_bin op_addZ do_int (do_call ((z__law_take h).mono (by decide)) hr rfl takesD (dos_cons (dv 0) (dos_cons do_int dos_nil)))) (dos_cons (dv 1) (dos_cons (dv 3) dos_nil)))))) (dss_cons (dsn nd__law_text 5 (do_call ((z__law_made h).mono (by decide)) hr rfl takesD (dos_cons (dv 0) (dos_cons (do_bin op_addZ do_int (do_call ((z__law_take h).mono (by decide)) hr rfl takesD (dos_cons (dv 0) (dos_cons do_int dos_nil)))) (dos_cons (dv 1) (dos_cons (dv 3) dos_nil)))))) (dss_cons (dsn nd__law_text 6 (do_call ((z__law_take h).mono (by decide)) hr rfl takesD (dos_cons (dv 0) (dos_cons (do_bin op_addZ (do_callBV call_lenZ rfl h.b_len (by decide +kernel) (dos_cons (dv 4) dos_nil)) do_int) dos_nil)))) (dss_one (ds_ret (do_slH (do_bin op_addZ (do_bin op_addZ (do_slH (dv 4) (dv 6)) (dv 5)) (do_slL (dv 4) (dv 6))) do_int)))))) dss_nil) (dss_one (ds_ret (do_slH (do_call ((z__law_made h).mono (by decide)) hr rfl takesD (dos_cons (dv 0) (dos_cons (dv 2) (dos_cons (dv 1) (dos_cons (dv 3) dos_nil))))) do_int)))))))
theorem z__law_text (h : HF K mg) : FnZ P w K mg base 4 "_law_text" [1, 0] sp__law_text := by
  obtain ⟨f, fd, F, hm⟩ := h.f__law_text
  exact fnZ_of F hm (fun _ _ _ _ _ _ us hl => match us, hl with | [_, _], _ => rfl) sc__law_text rfl (by decide) (ds__law_text h f) fun _ _ _ _ q => q.run

theorem nd__law_windows : (n__law_windows).Nodup := by decide +kernel
theorem sc__law_windows : FnScope n__law_windows ["text", "length"] (defScope (top 38)) := ⟨rfl, rfl, rfl, by decide +kernel, rfl, by decide +kernel, by decide +kernel⟩
theorem ds__law_windows (h : HF K mg) : ∀ (f : Addr) (cdv : Value) (A : Around) (outer : List PySem.Env) (s : Shared) (H : Hp) (E : XK), Room 0 (A.deeper (envOfC "_law_windows" (defScope (top 38)) s.heap.objs.size f cdv)) → DSs (cxD P w K mg base n__law_windows "_law_windows" (defScope (top 38)) f cdv A outer s H E) ⟨K, none⟩ (fun cls d _ H => E cls d H) ⟨(n__law_windows).length, ioOf 0 [0, 0]⟩ (defBody (top 38)) w__law_windows := fun f cdv A outer s H E hr =>
  have hu := hr.units
  (dss_cons (dsn nd__law_windows 2 (do_bin op_addZ (do_bin op_addZ (do_lst (dos_cons (do_un un_negZ do_int) dos_nil)) (do_lc rfl nd__law_windows (di_list (dv 0)) (own := [("letter", 3)]) (blkOk_by (by rfl)) (fun _ _ _ _ _ => (pgn nd__law_windows 3)) (tg_name (show 3 < 5 by decide) (show 3 ∉ ([] : List Nat) by decide)) (by decide) (fun _ _ _ _ _ => dts_nil) (fun _ _ _ _ _ => (dv 3)))) (do_lst (dos_cons (do_un un_negZ do_int) dos_nil)))) (dss_one (ds_ret (do_lc rfl nd__law_windows (di_range2 rfl h.b_range (dos_cons do_int (dos_cons (do_callBV call_lenZ rfl h.b_len (by decide +kernel) (dos_cons (dv 2) dos_nil)) dos_nil))) (own := [("at", 4)]) (blkOk_by (by rfl)) (fun _ _ _ _ _ => (pgn nd__law_windows 4)) (tg_name (show 4 < 5 by decide) (show 4 ∉ ([] : List Nat) by decide)) (by decide) (fun _ _ _ _ _ => dts_nil) (fun _ _ _ _ _ => (do_callT call_tupleZ rfl h.b_tuple (by decide +kernel) (dos_cons (do_sl2 (dv 2) (do_callBV (call_max2Z rfl) rfl h.b_max (by decide +kernel) (dos_cons do_int (dos_cons (do_bin op_addZ (do_bin op_subZ (dv 4) (dv 1)) do_int) dos_nil))) (do_bin op_addZ (dv 4) do_int)) dos_nil)))))))
theorem z__law_windows (h : HF K mg) : FnZ P w K mg base 1 "_law_windows" [0, 0] sp__law_windows := by
  obtain ⟨f, fd, F, hm⟩ := h.f__law_windows
  exact fnZ_of F hm (fun _ _ _ _ _ _ us hl => match us, hl with | [_, _], _ => rfl) sc__law_windows rfl (by decide) (ds__law_windows h f) fun _ _ _ _ q => q.run

theorem nd__law_head : (n__law_head).Nodup := by decide +kernel
theorem sc__law_head : FnScope n__law_head ["window", "length"] (defScope (top 39)) := ⟨rfl, rfl, rfl, by decide +kernel, rfl, by decide +kernel, by decide +kernel⟩
theorem ds__law_head (h : HF K mg) : ∀ (f : Addr) (cdv : Value) (A : Around) (outer : List PySem.Env) (s : Shared) (H : Hp) (E : XK), Room 0 (A.deeper (envOfC "_law_head" (defScope (top 39)) s.heap.objs.size f cdv)) → DSs (cxD P w K mg base n__law_head "_law_head" (defScope (top 39)) f cdv A outer s H E) ⟨K, none⟩ (fun cls d _ H => E cls d H) ⟨(n__law_head).length, ioOf 0 [0, 0]⟩ (defBody (top 39)) w__law_head := fun f cdv A outer s H E hr =>
  have hu := hr.units
  (dss_cons (ds_if (dt_cmp (op_eqZ hu) (do_ix ix_Z (dv 0) (do_un un_negZ do_int) (fun _ _ => rfl)) (do_un un_negZ do_int) (by rfl)) (dss_one (ds_ret (do_tup (dos_cons (do_un un_negZ do_int) dos_nil)))) dss_nil) (dss_one (ds_ret (do_slL (dv 0) (do_callBV (call_max2Z rfl) rfl h.b_max (by decide +kernel) (dos_cons do_int (dos_cons (do_bin op_addZ (do_bin op_subZ (do_callBV call_lenZ rfl h.b_len (by decide +kernel) (dos_cons (dv 0) dos_nil)) (dv 1)) do_int) dos_nil)))))))
theorem z__law_head (h : HF K mg) : FnZ P w K mg base 1 "_law_head" [0, 0] sp__law_head := by
  obtain ⟨f, fd, F, hm⟩ := h.f__law_head
  exact fnZ_of F hm (fun _ _ _ _ _ _ us hl => match us, hl with | [_, _], _ => rfl) sc__law_head rfl (by decide) (ds__law_head h f) fun _ _ _ _ q => q.run

theorem nd__law_node : (n__law_node).Nodup := by decide +kernel
theorem sc__law_node : FnScope n__law_node ["text", "length", "behind"] (defScope (top 40)) := ⟨rfl, rfl, rfl, by decide +kernel, rfl, by decide +kernel, by decide +kernel⟩
theorem ds__law_node (h : HF K mg) : ∀ (f : Addr) (cdv : Value) (A : Around) (outer : List PySem.Env) (s : Shared) (H : Hp) (E : XK), Room 0 (A.deeper (envOfC "_law_node" (defScope (top 40)) s.heap.objs.size f cdv)) → DSs (cxD P w K mg base n__law_node "_law_node" (defScope (top 40)) f cdv A outer s H E) ⟨K, none⟩ (fun cls d _ H => E cls d H) ⟨(n__law_node).length, ioOf 0 [0, 0, 0]⟩ (defBody (top 40)) w__law_node := fun f cdv A outer s H E hr =>
  have hu := hr.units
  (dss_cons (ds_if (dt_cmp (op_eqZ hu) (dv 2) (do_bin op_addZ (do_callBV call_lenZ rfl h.b_len (by decide +kernel) (dos_cons (dv 0) dos_nil)) do_int) (by rfl)) (dss_one (ds_ret (do_tup (dos_cons (do_un un_negZ do_int) dos_nil)))) dss_nil) (dss_cons (dsn nd__law_node 3 (do_bin op_addZ (do_lst (dos_cons (do_un un_negZ do_int) dos_nil)) (do_lc rfl nd__law_node (di_list (do_slH (dv 0) (dv 2))) (own := [("letter", 4)]) (blkOk_by (by rfl)) (fun _ _ _ _ _ => (pgn nd__law_node 4)) (tg_name (show 4 < 5 by decide) (show 4 ∉ ([] : List Nat) by decide)) (by decide) (fun _ _ _ _ _ => dts_nil) (fun _ _ _ _ _ => (dv 4))))) (dss_one (ds_ret (do_callT call_tupleZ rfl h.b_tuple (by decide +kernel) (dos_cons (do_slL (dv 3) (do_callBV (call_max2Z rfl) rfl h.b_max (by decide +kernel) (dos_cons do_int (dos_cons (do_bin op_subZ (do_bin op_addZ (dv 2) do_int) (dv 1)) dos_nil)))) dos_nil))))))
theorem z__law_node (h : HF K mg) : FnZ P w K mg base 1 "_law_node" [0, 0, 0] sp__law_node := by
  obtain ⟨f, fd, F, hm⟩ := h.f__law_node
  exact fnZ_of F hm (fun _ _ _ _ _ _ us hl => match us, hl with | [_, _, _], _ => rfl) sc__law_node rfl (by decide) (ds__law_node h f) fun _ _ _ _ q => q.run

theorem nd__law_due_fits : (n__law_due_fits).Nodup := by decide +kernel
theorem sc__law_due_fits : FnScope n__law_due_fits ["value", "length"] (defScope (top 41)) := ⟨rfl, rfl, rfl, by decide +kernel, rfl, by decide +kernel, by decide +kernel⟩
theorem ds__law_due_fits (h : HF K mg) : ∀ (f : Addr) (cdv : Value) (A : Around) (outer : List PySem.Env) (s : Shared) (H : Hp) (E : XK), Room 1 (A.deeper (envOfC "_law_due_fits" (defScope (top 41)) s.heap.objs.size f cdv)) → DSs (cxD P w K mg base n__law_due_fits "_law_due_fits" (defScope (top 41)) f cdv A outer s H E) ⟨K, none⟩ (fun cls d _ H => E cls d H) ⟨(n__law_due_fits).length, ioOf 0 [0, 0]⟩ (defBody (top 41)) w__law_due_fits := fun f cdv A outer s H E hr =>
  have hu := hr.units
  (dss_cons (ds_if (DW.dt (dw_or (dt_not (dt_val (do_callBV call_isiZ rfl h.b_isinstance (by decide +kernel) (dos_cons (dv 0) (dos_cons (do_bltn (v := .ty "tuple") rfl h.b_tuple (by decide +kernel) rfl rfl) dos_nil))) rfl)) (dw_or1 (dt_cmp op_ltZ (do_callBV call_lenZ rfl h.b_len (by decide +kernel) (dos_cons (dv 0) dos_nil)) do_int (by rfl))))) (dss_one (ds_ret do_bl)) dss_nil) (dss_cons (ds_if (dt_cmp op_gtZ (do_callBV call_lenZ rfl h.b_len (by decide +kernel) (dos_cons (do_lc rfl nd__law_due_fits (di_tup (dv 0)) (own := [("sign", 3)]) (blkOk_by (by rfl)) (fun _ _ _ _ _ => (pgn nd__law_due_fits 3)) (tg_name (show 3 < 4 by decide) (show 3 ∉ ([] : List Nat) by decide)) (by decide) (fun _ _ _ _ _ => (dts_one (dt_not (dt_val (do_call ((z__law_int h).mono (by decide)) hr rfl takesF (dos_cons (dv 3) dos_nil)) rfl)))) (fun _ _ _ _ _ => (dv 3))) dos_nil)) do_int (by rfl)) (dss_one (ds_ret do_bl)) dss_nil) (dss_cons (ds_if (DW.dt (dw_and (dt_cmp (op_neZ hu) (do_ix ix_Z (dv 0) (do_un un_negZ do_int) (fun _ _ => rfl)) (do_un un_negZ do_int) (by rfl)) (dw_and1 (DW.dt (dw_or (dt_cmp op_ltZ (do_ix ix_Z (dv 0) (do_un un_negZ do_int) (fun _ _ => rfl)) do_int (by rfl)) (dw_or1 (dt_cmp op_gtZ (do_ix ix_Z (dv 0) (do_un un_negZ do_int) (fun _ _ => rfl)) do_int (by rfl)))))))) (dss_one (ds_ret do_bl)) dss_nil) (dss_cons (dsn nd__law_due_fits 2 (do_slH (dv 0) (do_un un_negZ do_int))) (dss_cons (ds_if (dt_cmp (op_eqZ hu) (do_ix ix_Z (dv 2) do_int (fun _ _ => rfl)) (do_un un_negZ do_int) (by rfl)) (dss_cons (dsn nd__law_due_fits 2 (do_slL (dv 2) do_int)) (dss_one (ds_if (dt_cmp op_gtZ (do_callBV call_lenZ rfl h.b_len (by decide +kernel) (dos_cons (dv 2) dos_nil)) (do_bin op_subZ (dv 1) do_int) (by rfl)) (dss_one (ds_ret do_bl)) dss_nil))) (dss_one (ds_if (dt_cmp (op_neZ hu) (do_callBV call_lenZ rfl h.b_len (by decide +kernel) (dos_cons (dv 2) dos_nil)) (do_bin op_subZ (dv 1) do_int) (by rfl)) (dss_one (ds_ret do_bl)) dss_nil))) (dss_one (ds_ret (do_cmp (op_eqZ hu) (do_callBV call_lenZ rfl h.b_len (by decide +kernel) (dos_cons (do_lc rfl nd__law_due_fits (di_tup (dv 2)) (own := [("sign", 3)]) (blkOk_by (by rfl)) (fun _ _ _ _ _ => (pgn nd__law_due_fits 3)) (tg_name (show 3 < 4 by decide) (show 3 ∉ ([] : List Nat) by decide)) (by decide) (fun _ _ _ _ _ => (dts_one (DW.dt (dw_or (dt_cmp op_ltZ (dv 3) do_int (by rfl)) (dw_or1 (dt_cmp op_gtZ (dv 3) do_int (by rfl))))))) (fun _ _ _ _ _ => (dv 3))) dos_nil)) do_int (by rfl)))))))))
theorem z__law_due_fits (h : HF K mg) : FnZ P w K mg base 2 "_law_due_fits" [0, 0] sp__law_due_fits := by
  obtain ⟨f, fd, F, hm⟩ := h.f__law_due_fits
  exact fnZ_of F hm (fun _ _ _ _ _ _ us hl => match us, hl with | [_, _], _ => rfl) sc__law_due_fits rfl (by decide) (ds__law_due_fits h f) fun _ _ _ _ q => q.run

theorem nd__law_signs : (n__law_signs).Nodup := by decide +kernel
theorem sc__law_signs : FnScope n__law_signs ["told", "due"] (defScope (top 42)) := ⟨rfl, rfl, rfl, by decide +kernel, rfl, by decide +kernel, by decide +kernel⟩
theorem ds__law_signs (h : HF K mg) : ∀ (f : Addr) (cdv : Value) (A : Around) (outer : List PySem.Env) (s : Shared) (H : Hp) (E : XK), Room 1 (A.deeper (envOfC "_law_signs" (defScope (top 42)) s.heap.objs.size f cdv)) → DSs (cxD P w K mg base n__law_signs "_law_signs" (defScope (top 42)) f cdv A outer s H E) ⟨K, none⟩ (fun cls d _ H => E cls d H) ⟨(n__law_signs).length, ioOf 0 [0, 0]⟩ (defBody (top 42)) w__law_signs := fun f cdv A outer s H E hr =>
  have hu := hr.units
  (dss_cons (ds_if (DW.dt (dw_or (dt_not (dt_val (do_callBV call_isiZ rfl h.b_isinstance (by decide +kernel) (dos_cons (dv 0) (dos_cons (do_bltn (v := .ty "tuple") rfl h.b_tuple (by decide +kernel) rfl rfl) dos_nil))) rfl)) (dw_or1 (dt_cmp (op_neZ hu) (do_callBV call_lenZ rfl h.b_len (by decide +kernel) (dos_cons (dv 0) dos_nil)) (do_callBV call_lenZ rfl h.b_len (by decide +kernel) (dos_cons (dv 1) dos_nil)) (by rfl))))) (dss_one (ds_ret do_bl)) dss_nil) (dss_cons (ds_for passesD rfl (di_range1 rfl h.b_range (dos_cons (do_callBV call_lenZ rfl h.b_len (by decide +kernel) (dos_cons (dv 1) dos_nil)) dos_nil)) (pgn nd__law_signs 2) (tg_name (show 2 < 3 by decide) (show 2 ∉ ([] : List Nat) by decide)) (dss_one (ds_if (DW.dt (dw_or (dt_not (dt_val (do_call ((z__law_int h).mono (by decide)) hr rfl takesD (dos_cons (do_ix ix_Z (dv 0) (dv 2) (fun _ _ => rfl)) dos_nil)) rfl)) (dw_or1 (dt_cmp (op_neZ hu) (do_ix ix_Z (dv 0) (dv 2) (fun _ _ => rfl)) (do_ix ix_Z (dv 1) (dv 2) (fun _ _ => rfl)) (by rfl))))) (dss_one (ds_ret do_bl)) dss_nil))) (dss_one (ds_ret do_bl))))
theorem z__law_signs (h : HF K mg) : FnZ P w K mg base 2 "_law_signs" [0, 0] sp__law_signs := by
  obtain ⟨f, fd, F, hm⟩ := h.f__law_signs
  exact fnZ_of F hm (fun _ _ _ _ _ _ us hl => match us, hl with | [_, _], _ => rfl) sc__law_signs rfl (by decide) (ds__law_signs h f) fun _ _ _ _ q => q.run

theorem nd__law_ask : (n__law_ask).Nodup := by decide +kernel
theorem sc__law_ask : FnScope n__law_ask ["word", "value", "length"] (defScope (top 43)) := ⟨rfl, rfl, rfl, by decide +kernel, rfl, by decide +kernel, by decide +kernel⟩
theorem ds__law_ask (h : HF K mg) : ∀ (f : Addr) (cdv : Value) (A : Around) (outer : List PySem.Env) (s : Shared) (H : Hp) (E : XK), Room 5 (A.deeper (envOfC "_law_ask" (defScope (top 43)) s.heap.objs.size f cdv)) → DSs (cxD P w K mg base n__law_ask "_law_ask" (defScope (top 43)) f cdv A outer s H E) ⟨K, none⟩ (fun cls d _ H => E cls d H) ⟨(n__law_ask).length, ioOf 0 [0, 0, 0]⟩ (defBody (top 43)) w__law_ask := fun f cdv A outer s H E hr =>
  have hu := hr.units
  (dss_cons (dsn nd__law_ask 3 do_non) (dss_cons (dsn nd__law_ask 4 do_non) (dss_cons (ds_try h.sub rfl rfl takesD (fun W' pn xe tk po => (dss_one (ds_if (dt_cmp (op_eqZ hu) (dv 0) do_int (by rfl)) (dss_one (dsn nd__law_ask 3 (do_call ((z_tail_of h).mono (by decide)) hr rfl tk (dos_cons (dv 1) (dos_cons (dv 2) dos_nil))))) (dss_one (ds_if (dt_cmp (op_eqZ hu) (dv 0) do_int (by rfl)) (dss_one (dsn nd__law_ask 3 (do_call ((z_head_of h).mono (by decide)) hr rfl tk (dos_cons (dv 1) (dos_cons (dv 2) dos_nil))))) (dss_one (dsn nd__law_ask 3 (do_call ((z_cut_window h).mono (by decide)) hr rfl tk (dos_cons (dv 1) (dos_cons (dv 2) dos_nil)))))))))) (.as ⟨rfl, by decide, .inl (h.exc_BadWindow P w base).gl⟩ nd__law_ask (i := 5) rfl rfl (fun a oe cls d pn hz hf => suite_of (d := d) fun hcl => (dss_one (dsn nd__law_ask 4 (do_tup (dos_cons do_str (dos_cons (do_xf (i := 5) h.x_BadWindow h.nf_BadWindow_place hcl hz hf rfl (by first | exact Or.inl rfl | exact Or.inr (Or.inl rfl) | exact Or.inr (Or.inr rfl))) dos_nil)))))) (.as ⟨rfl, by decide, .inl (h.exc_BadNumber P w base).gl⟩ nd__law_ask (i := 6) rfl rfl (fun a oe cls d pn hz hf => suite_of (d := d) fun hcl => (dss_one (dsn nd__law_ask 4 (do_tup (dos_cons do_str (dos_cons (do_xf (i := 6) h.x_BadNumber h.nf_BadNumber_name hcl hz hf rfl (by first | exact Or.inl rfl | exact Or.inr (Or.inl rfl) | exact Or.inr (Or.inr rfl))) dos_nil)))))) .nil)) (by decide)) (dss_cons (ds_if (dt_cmp op_isntZ (dv 4) do_non (by rfl)) (dss_one (ds_ret (dv 4))) dss_nil) (dss_one (ds_ret (do_tup (dos_cons do_str (dos_cons (dv 3) dos_nil)))))))))
theorem z__law_ask (h : HF K mg) : FnZ P w K mg base 6 "_law_ask" [0, 0, 0] sp__law_ask := by
  obtain ⟨f, fd, F, hm⟩ := h.f__law_ask
  exact fnZ_of F hm (fun _ _ _ _ _ _ us hl => match us, hl with | [_, _, _], _ => rfl) sc__law_ask rfl (by decide) (ds__law_ask h f) fun _ _ _ _ q => q.run

theorem nd__law_named : (n__law_named).Nodup := by decide +kernel
theorem sc__law_named : FnScope n__law_named ["word", "text", "length", "at"] (defScope (top 44)) := ⟨rfl, rfl, rfl, by decide +kernel, rfl, by decide +kernel, by decide +kernel⟩
theorem ds__law_named (h : HF K mg) : ∀ (f : Addr) (cdv : Value) (A : Around) (outer : List PySem.Env) (s : Shared) (H : Hp) (E : XK), Room 5 (A.deeper (envOfC "_law_named" (defScope (top 44)) s.heap.objs.size f cdv)) → DSs (cxD P w K mg base n__law_named "_law_named" (defScope (top 44)) f cdv A outer s H E) ⟨K, none⟩ (fun cls d _ H => E cls d H) ⟨(n__law_named).length, ioOf 0 [0, 0, 0, 0]⟩ (defBody (top 44)) w__law_named := fun f cdv A outer s H E hr =>
  have hu := hr.units
  (dss_cons (dsn nd__law_named 4 do_non) (dss_cons (dsn nd__law_named 5 do_non) (dss_cons (ds_try h.sub rfl rfl takesD (fun W' pn xe tk po => (dss_one (ds_if (dt_cmp (op_eqZ hu) (dv 0) do_int (by rfl)) (dss_one (dsn nd__law_named 4 (do_call ((z_windows h).mono (by decide)) hr rfl tk (dos_cons (dv 1) (dos_cons (dv 2) dos_nil))))) (dss_one (ds_if (dt_cmp (op_eqZ hu) (dv 0) do_int (by rfl)) (dss_one (dsn nd__law_named 4 (do_call ((z_window_of h).mono (by decide)) hr rfl tk (dos_cons (dv 1) (dos_cons (dv 2) (dos_cons (dv 3) dos_nil)))))) (dss_one (ds_if (dt_cmp (op_eqZ hu) (dv 0) do_int (by rfl)) (dss_one (dsn nd__law_named 4 (do_call ((z_node_behind h).mono (by decide)) hr rfl tk (dos_cons (dv 1) (dos_cons (dv 2) (dos_cons (dv 3) dos_nil)))))) (dss_one (dsn nd__law_named 4 (do_call ((z_fits h).mono (by decide)) hr rfl tk (dos_cons (dv 3) (dos_cons (dv 2) dos_nil)))))))))))) (.as ⟨rfl, by decide, .inl (h.exc_BadNumber P w base).gl⟩ nd__law_named (i := 6) rfl rfl (fun a oe cls d pn hz hf => suite_of (d := d) fun hcl => (dss_one (dsn nd__law_named 5 (do_xf (i := 6) h.x_BadNumber h.nf_BadNumber_name hcl hz hf rfl (by first | exact Or.inl rfl | exact Or.inr (Or.inl rfl) | exact Or.inr (Or.inr rfl)))))) .nil) (by decide)) (dss_cons (ds_if (dt_cmp op_isntZ (dv 5) do_non (by rfl)) (dss_one (ds_ret (dv 5))) dss_nil) (dss_one (ds_ret (do_tup (dos_cons do_str (dos_cons (dv 4) dos_nil)))))))))
theorem z__law_named (h : HF K mg) : FnZ P w K mg base 6 "_law_named" [0, 0, 0, 0] sp__law_named := by
  obtain ⟨f, fd, F, hm⟩ := h.f__law_named
  exact fnZ_of F hm (fun _ _ _ _ _ _ us hl => match us, hl with | [_, _, _, _], _ => rfl) sc__law_named rfl (by decide) (ds__law_named h f) fun _ _ _ _ q => q.run

theorem nd__law_windows_right : (n__law_windows_right).Nodup := by decide +kernel
theorem sc__law_windows_right : FnScope n__law_windows_right ["text", "length"] (defScope (top 45)) := ⟨rfl, rfl, rfl, by decide +kernel, rfl, by decide +kernel, by decide +kernel⟩
theorem ds__law_windows_right (h : HF K mg) : ∀ (f : Addr) (cdv : Value) (A : Around) (outer : List PySem.Env) (s : Shared) (H : Hp) (E : XK), Room 5 (A.deeper (envOfC "_law_windows_right" (defScope (top 45)) s.heap.objs.size f cdv)) → DSs (cxD P w K mg base n__law_windows_right "_law_windows_right" (defScope (top 45)) f cdv A outer s H E) ⟨K, none⟩ (fun cls d _ H => E cls d H) ⟨(n__law_windows_right).length, ioOf 0 [0, 0]⟩ (defBody (top 45)) w__law_windows_right := fun f cdv A outer s H E hr =>
  have hu := hr.units
  (dss_cons (dsn nd__law_windows_right 2 (do_call ((z__law_windows h).mono (by decide)) hr rfl takesD (dos_cons (dv 0) (dos_cons (dv 1) dos_nil)))) (dss_cons (ds_setLc (i := 3) rfl nd__law_windows_right rfl rfl (by decide) rfl (di_list (dv 0)) (own := [("letter", 7)]) (blkOk_by (by rfl)) (fun _ _ _ _ _ => (pgn nd__law_windows_right 7)) (tg_name (show 7 < 8 by decide) (show 7 ∉ ([] : List Nat) by decide)) (by decide) (fun _ _ _ _ _ => dts_nil) (fun _ _ _ _ _ => (dv 7))) (dss_cons (dsn nd__law_windows_right 4 (do_call ((z_windows h).mono (by decide)) hr rfl takesD (dos_cons (dv 3) (dos_cons (dv 1) dos_nil)))) (dss_cons (ds_if (DW.dt (dw_or (dt_not (dt_val (do_callBV call_isiZ rfl h.b_isinstance (by decide +kernel) (dos_cons (dv 4) (dos_cons (do_bltn (v := .ty "tuple") rfl h.b_tuple (by decide +kernel) rfl rfl) dos_nil))) rfl)) (dw_or (dt_cmp (op_neZ hu) (do_callBV call_lenZ rfl h.b_len (by decide +kernel) (dos_cons (dv 4) dos_nil)) (do_bin op_addZ (do_callBV call_lenZ rfl h.b_len (by decide +kernel) (dos_cons (dv 0) dos_nil)) do_int) (by rfl)) (dw_or1 (dt_cmp (op_neZ hu) (dv 3) (dv 0) (by rfl)))))) (dss_one (ds_ret do_bl)) dss_nil) (dss_cons (ds_for passesD rfl (di_range1 rfl h.b_range (dos_cons (do_callBV call_lenZ rfl h.b_len (by decide +kernel) (dos_cons (dv 2) dos_nil)) dos_nil)) (pgn nd__law_windows_right 5) (tg_name (show 5 < 8 by decide) (show 5 ∉ ([] : List Nat) by decide)) (dss_cons (ds_if (DW.dt (dw_or (dt_not (dt_val (do_call ((z__law_signs h).mono (by decide)) hr rfl takesD (dos_cons (do_ix ix_Z (dv 4) (dv 5) (fun _ _ => rfl)) (dos_cons (do_ix ix_Z (dv 2) (dv 5) (fun _ _ => rfl)) dos_nil))) rfl)) (dw_or1 (dt_cmp op_isntZ (do_call ((z_fits h).mono (by decide)) hr rfl takesD (dos_cons (do_ix ix_Z (dv 2) (dv 5) (fun _ _ => rfl)) (dos_cons (dv 1) dos_nil))) do_bl (by rfl))))) (dss_one (ds_ret do_bl)) dss_nil) (dss_cons (ds_if (dt_not (dt_val (do_call ((z__law_signs h).mono (by decide)) hr rfl takesD (dos_cons (do_call ((z_window_of h).mono (by decide)) hr rfl takesD (dos_cons (do_callT call_tupleZ rfl h.b_tuple (by decide +kernel) (dos_cons (dv 0) dos_nil)) (dos_cons (dv 1) (dos_cons (do_bin op_addZ (dv 5) do_int) dos_nil)))) (dos_cons (do_ix ix_Z (dv 2) (dv 5) (fun _ _ => rfl)) dos_nil))) rfl)) (dss_one (ds_ret do_bl)) dss_nil) (dss_cons (ds_if (dt_not (dt_val (do_call ((z__law_signs h).mono (by decide)) hr rfl takesD (dos_cons (do_call ((z_tail_of h).mono (by decide)) hr rfl takesD (dos_cons (do_ix ix_Z (dv 2) (dv 5) (fun _ _ => rfl)) (dos_cons (dv 1) dos_nil))) (dos_cons (do_call ((z__law_node h).mono (by decide)) hr rfl takesD (dos_cons (dv 0) (dos_cons (dv 1) (dos_cons (dv 5) dos_nil)))) dos_nil))) rfl)) (dss_one (ds_ret do_bl)) dss_nil) (dss_one (ds_if (dt_not (dt_val (do_call ((z__law_signs h).mono (by decide)) hr rfl takesD (dos_cons (do_call ((z_head_of h).mono (by decide)) hr rfl takesD (dos_cons (do_ix ix_Z (dv 2) (dv 5) (fun _ _ => rfl)) (dos_cons (dv 1) dos_nil))) (dos_cons (do_call ((z__law_node h).mono (by decide)) hr rfl takesD (dos_cons (dv 0) (dos_cons (dv 1) (dos_cons (do_bin op_addZ (dv 5) do_int) dos_nil)))) dos_nil))) rfl)) (dss_one (ds_ret do_bl)) dss_nil)))))) (dss_cons (ds_for passesD rfl (di_range1 rfl h.b_range (dos_cons (do_bin op_addZ (do_callBV call_lenZ rfl h.b_len (by decide +kernel) (dos_cons (dv 0) dos_nil)) do_int) dos_nil)) (pgn nd__law_windows_right 6) (tg_name (show 6 < 8 by decide) (show 6 ∉ ([] : List Nat) by decide)) (dss_one (ds_if (dt_not (dt_val (do_call ((z__law_signs h).mono (by decide)) hr rfl takesD (dos_cons (do_call ((z_node_behind h).mono (by decide)) hr rfl takesD (dos_cons (dv 3) (dos_cons (dv 1) (dos_cons (dv 6) dos_nil)))) (dos_cons (do_call ((z__law_node h).mono (by decide)) hr rfl takesD (dos_cons (dv 0) (dos_cons (dv 1) (dos_cons (dv 6) dos_nil)))) dos_nil))) rfl)) (dss_one (ds_ret do_bl)) dss_nil))) (dss_one (ds_ret (do_cmp (op_eqZ hu) (dv 3) (dv 0) (by rfl))))))))))
theorem z__law_windows_right (h : HF K mg) : FnZ P w K mg base 6 "_law_windows_right" [0, 0] sp__law_windows_right := by
  obtain ⟨f, fd, F, hm⟩ := h.f__law_windows_right
  exact fnZ_of F hm (fun _ _ _ _ _ _ us hl => match us, hl with | [_, _], _ => rfl) sc__law_windows_right rfl (by decide) (ds__law_windows_right h f) fun _ _ _ _ q => q.run

theorem nd__law_longer_right : (n__law_longer_right).Nodup := by decide +kernel
theorem sc__law_longer_right : FnScope n__law_longer_right ["text", "length"] (defScope (top 46)) := ⟨rfl, rfl, rfl, by decide +kernel, rfl, by decide +kernel, by decide +kernel⟩
theorem ds__law_longer_right (h : HF K mg) : ∀ (f : Addr) (cdv : Value) (A : Around) (outer : List PySem.Env) (s : Shared) (H : Hp) (E : XK), Room 5 (A.deeper (envOfC "_law_longer_right" (defScope (top 46)) s.heap.objs.size f cdv)) → DSs (cxD P w K mg base n__law_longer_right "_law_longer_right" (defScope (top 46)) f cdv A outer s H E) ⟨K, none⟩ (fun cls d _ H => E cls d H) ⟨(n__law_longer_right).length, ioOf 0 [0, 0]⟩ (defBody (top 46)) w__law_longer_right := fun f cdv A outer s H E hr =>
  have hu := hr.units
  (dss_cons (dsn nd__law_longer_right 2 (do_call ((z__law_windows h).mono (by decide)) hr rfl takesD (dos_cons (dv 0) (dos_cons (dv 1) dos_nil)))) (dss_cons (dsn nd__law_longer_right 3 (do_call ((z_windows h).mono (by decide)) hr rfl takesD (dos_cons (dv 0) (dos_cons (do_bin op_addZ (dv 1) do_int) dos_nil)))) (dss_cons (ds_if (DW.dt (dw_or (dt_not (dt_val (do_callBV call_isiZ rfl h.b_isinstance (by decide +kernel) (dos_cons (dv 3) (dos_cons (do_bltn (v := .ty "tuple") rfl h.b_tuple (by decide +kernel) rfl rfl) dos_nil))) rfl)) (dw_or1 (dt_cmp (op_neZ hu) (do_callBV call_lenZ rfl h.b_len (by decide +kernel) (dos_cons (dv 3) dos_nil)) (do_callBV call_lenZ rfl h.b_len (by decide +kernel) (dos_cons (dv 2) dos_nil)) (by rfl))))) (dss_one (ds_ret do_bl)) dss_nil) (dss_cons (ds_for passesD rfl (di_range1 rfl h.b_range (dos_cons (do_callBV call_lenZ rfl h.b_len (by decide +kernel) (dos_cons (dv 2) dos_nil)) dos_nil)) (pgn nd__law_longer_right 4) (tg_name (show 4 < 9 by decide) (show 4 ∉ ([] : List Nat) by decide)) (dss_cons (ds_if (dt_not (dt_val (do_call ((z__law_signs h).mono (by decide)) hr rfl takesD (dos_cons (do_call ((z_cut_window h).mono (by decide)) hr rfl takesD (dos_cons (do_ix ix_Z (dv 3) (dv 4) (fun _ _ => rfl)) (dos_cons (dv 1) dos_nil))) (dos_cons (do_ix ix_Z (dv 2) (dv 4) (fun _ _ => rfl)) dos_nil))) rfl)) (dss_one (ds_ret do_bl)) dss_nil) (dss_cons (ds_if (DW.dt (dw_and (dt_cmp op_ltZ (dv 4) (do_callBV call_lenZ rfl h.b_len (by decide +kernel) (dos_cons (dv 0) dos_nil)) (by rfl)) (dw_and1 (dt_not (dt_val (do_call ((z__law_signs h).mono (by decide)) hr rfl takesD (dos_cons (do_call ((z_node_behind h).mono (by decide)) hr rfl takesD (dos_cons (dv 0) (dos_cons (do_bin op_addZ (dv 1) do_int) (dos_cons (do_bin op_addZ (dv 4) do_int) dos_nil)))) (dos_cons (do_ix ix_Z (dv 2) (dv 4) (fun _ _ => rfl)) dos_nil))) rfl))))) (dss_one (ds_ret do_bl)) dss_nil) (dss_cons (dsn nd__law_longer_right 5 (do_call ((z_fits h).mono (by decide)) hr rfl takesD (dos_cons (do_ix ix_Z (dv 2) (dv 4) (fun _ _ => rfl)) (dos_cons (do_bin op_addZ (dv 1) do_int) dos_nil)))) (dss_one (ds_if (DW.dt (dw_or (dt_not (dt_val (do_callBV call_isiZ rfl h.b_isinstance (by decide +kernel) (dos_cons (dv 5) (dos_cons (do_bltn (v := .ty "bool") rfl h.b_bool (by decide +kernel) rfl rfl) dos_nil))) rfl)) (dw_or1 (dt_cmp (op_neZ hu) (dv 5) (do_call ((z__law_due_fits h).mono (by decide)) hr rfl takesD (dos_cons (do_ix ix_Z (dv 2) (dv 4) (fun _ _ => rfl)) (dos_cons (do_bin op_addZ (dv 1) do_int) dos_nil))) (by rfl))))) (dss_one (ds_ret do_bl)) dss_nil)))))) (dss_cons (dsn nd__law_longer_right 6 (do_call ((z_windows h).mono (by decide)) hr rfl takesD (dos_cons (dv 0) (dos_cons (do_bin op_addZ (do_callBV call_lenZ rfl h.b_len (by decide +kernel) (dos_cons (dv 0) dos_nil)) do_int) dos_nil)))) (dss_cons (dsn nd__law_longer_right 7 (do_call ((z_windows h).mono (by decide)) hr rfl takesD (dos_cons (dv 0) (dos_cons do_int dos_nil)))) (dss_cons (ds_if (dt_cmp (op_neZ hu) (do_callBV call_lenZ rfl h.b_len (by decide +kernel) (dos_cons (dv 6) dos_nil)) (do_callBV call_lenZ rfl h.b_len (by decide +kernel) (dos_cons (dv 7) dos_nil)) (by rfl)) (dss_one (ds_ret do_bl)) dss_nil) (dss_cons (dsn nd__law_longer_right 8 (do_bin op_addZ (do_bin op_addZ (do_lst (dos_cons (do_un un_negZ do_int) dos_nil)) (dv 0)) (do_lst (dos_cons (do_un un_negZ do_int) dos_nil)))) (dss_cons (ds_for passesD rfl (di_range1 rfl h.b_range (dos_cons (do_callBV call_lenZ rfl h.b_len (by decide +kernel) (dos_cons (dv 7) dos_nil)) dos_nil)) (pgn nd__law_longer_right 4) (tg_name (show 4 < 9 by decide) (show 4 ∉ ([] : List Nat) by decide)) (dss_one (ds_if (DW.dt (dw_or (dt_not (dt_val (do_call ((z__law_signs h).mono (by decide)) hr rfl takesD (dos_cons (do_ix ix_Z (dv 6) (dv 4) (fun _ _ => rfl)) (dos_cons (do_slH (dv 8) (do_bin op_addZ (dv 4) do_int)) dos_nil))) rfl)) (dw_or1 (dt_not (dt_val (do_call ((z__law_signs h).mono (by decide)) hr rfl takesD (dos_cons (do_ix ix_Z (dv 7) (dv 4) (fun _ _ => rfl)) (dos_cons (do_slH (dv 8) (do_bin op_addZ (dv 4) do_int)) dos_nil))) rfl))))) (dss_one (ds_ret do_bl)) dss_nil))) (dss_one (ds_ret do_bl)))))))))))
theorem z__law_longer_right (h : HF K mg) : FnZ P w K mg base 6 "_law_longer_right" [0, 0] sp__law_longer_right := by
  obtain ⟨f, fd, F, hm⟩ := h.f__law_longer_right
  exact fnZ_of F hm (fun _ _ _ _ _ _ us hl => match us, hl with | [_, _], _ => rfl) sc__law_longer_right rfl (by decide) (ds__law_longer_right h f) fun _ _ _ _ q => q.run

theorem nd__law_bent : (n__law_bent).Nodup := by decide +kernel
theorem sc__law_bent : FnScope n__law_bent ["draws", "window"] (defScope (top 47)) := ⟨rfl, rfl, rfl, by decide +kernel, rfl, by decide +kernel, by decide +kernel⟩
theorem ds__law_bent (h : HF K mg) : ∀ (f : Addr) (cdv : Value) (A : Around) (outer : List PySem.Env) (s : Shared) (H : Hp) (E : XK), Room 1 (A.deeper (envOfC "_law_bent" (defScope (top 47)) s.heap.objs.size f cdv)) → DSs (cxD P w K mg base n__law_bent "_law_bent" (defScope (top 47)) f cdv A outer s H E) ⟨K, none⟩ (fun cls d _ H => E cls d H) ⟨(n__law_bent).length, ioOf 0 [1, 0]⟩ (defBody (top 47)) w__law_bent := fun f cdv A outer s H E hr =>
  have hu := hr.units
  (dss_cons (ds_setLc (i := 2) rfl nd__law_bent rfl rfl (by decide) rfl (di_tup (dv 1)) (own := [("sign", 5)]) (blkOk_by (by rfl)) (fun _ _ _ _ _ => (pgn nd__law_bent 5)) (tg_name (show 5 < 6 by decide) (show 5 ∉ ([] : List Nat) by decide)) (by decide) (fun _ _ _ _ _ => dts_nil) (fun _ _ _ _ _ => (dv 5))) (dss_cons (dsn nd__law_bent 3 (do_bin op_modZ (do_callTV call_intZ rfl h.b_int (by decide +kernel) (dos_cons (do_call ((z__law_take h).mono (by decide)) hr rfl takesD (dos_cons (dv 0) (dos_cons do_int dos_nil))) dos_nil)) (do_callBV call_lenZ rfl h.b_len (by decide +kernel) (dos_cons (dv 2) dos_nil)))) (dss_cons (dsn nd__law_bent 4 (do_call ((z__law_take h).mono (by decide)) hr rfl takesD (dos_cons (dv 0) (dos_cons do_int dos_nil)))) (dss_cons (ds_if (dt_cmp (op_eqZ hu) (dv 4) do_int (by rfl)) (dss_one (ds_ret (dv 2))) dss_nil) (dss_cons (ds_if (dt_cmp op_leZ (dv 4) do_int (by rfl)) (dss_one (ds_ret (do_ix ix_Z (do_lst (dos_cons (do_slL (dv 1) do_int) (dos_cons (do_bin op_addZ (do_slH (dv 1) do_int) (dv 1)) (dos_cons (do_slH (dv 1) (do_un un_negZ do_int)) (dos_cons (do_bin op_addZ (dv 1) (do_tup (dos_cons do_int dos_nil))) dos_nil))))) (do_bin op_subZ (dv 4) do_int) (fun _ _ => rfl)))) dss_nil) (dss_cons (ds_if (dt_cmp op_leZ (dv 4) do_int (by rfl)) (dss_one (ds_ret (do_ix ix_Z (do_lst (dos_cons do_str (dos_cons do_non dos_nil))) (do_bin op_subZ (dv 4) do_int) (fun _ _ => rfl)))) dss_nil) (dss_cons (ds_if (dt_cmp (op_eqZ hu) (dv 4) do_int (by rfl)) (dss_one (ds_ret (do_tup dos_nil))) dss_nil) (dss_cons (ds_if (dt_cmp op_leZ (dv 4) do_int (by rfl)) (dss_one (ds_store (i := 2) rfl (by first | exact Or.inl rfl | exact Or.inr (Or.inl rfl) | exact Or.inr (Or.inr rfl)) (dv 3) (do_ix ix_Z (do_lst (dos_cons do_int (dos_cons (do_un un_negZ do_int) (dos_cons (do_un un_negZ do_int) (dos_cons do_bl (dos_cons do_non (dos_cons do_int (dos_cons do_int dos_nil)))))))) (do_bin op_subZ (dv 4) do_int) (fun _ _ => rfl)))) dss_nil) (dss_one (ds_ret (do_callT call_tupleZ rfl h.b_tuple (by decide +kernel) (dos_cons (dv 2) dos_nil))))))))))))
theorem z__law_bent (h : HF K mg) : FnZ P w K mg base 2 "_law_bent" [1, 0] sp__law_bent := by
  obtain ⟨f, fd, F, hm⟩ := h.f__law_bent
  exact fnZ_of F hm (fun _ _ _ _ _ _ us hl => match us, hl with | [_, _], _ => rfl) sc__law_bent rfl (by decide) (ds__law_bent h f) fun _ _ _ _ q => q.run

theorem nd__law_bends_right : (n__law_bends_right).Nodup := by decide +kernel
theorem sc__law_bends_right : FnScope n__law_bends_right ["draws", "text", "length"] (defScope (top 48)) := ⟨rfl, rfl, rfl, by decide +kernel, rfl, by decide +kernel, by decide +kernel⟩
theorem ds__law_bends_right (h : HF K mg) : ∀ (f : Addr) (cdv : Value) (A : Around) (outer : List PySem.Env) (s : Shared) (H : Hp) (E : XK), Room 6 (A.deeper (envOfC "_law_bends_right" (defScope (top 48)) s.heap.objs.size f cdv)) → DSs (cxD P w K mg base n__law_bends_right "_law_bends_right" (defScope (top 48)) f cdv A outer s H E) ⟨K, none⟩ (fun cls d _ H => E cls d H) ⟨(n__law_bends_right).length, ioOf 0 [1, 0, 0]⟩ (defBody (top 48)) w__law_bends_right := fun f cdv A outer s H E hr =>
  have hu := hr.units
  (dss_cons (dsn nd__law_bends_right 3 (do_call ((z__law_windows h).mono (by decide)) hr rfl takesD (dos_cons (dv 1) (dos_cons (dv 2) dos_nil)))) (dss_cons (ds_for passesD rfl (di_range1 rfl h.b_range (dos_cons do_int dos_nil)) (pgn nd__law_bends_right 4) (tg_name (show 4 < 9 by decide) (show 4 ∉ ([0] : List Nat) by decide)) (dss_cons (dsn nd__law_bends_right 5 (do_call ((z__law_bent h).mono (by decide)) hr rfl takesD (dos_cons (dv 0) (dos_cons (do_ix ix_Z (dv 3) (do_bin op_modZ (do_callTV call_intZ rfl h.b_int (by decide +kernel) (dos_cons (do_bin op_addZ (do_bin op_mulZ (do_call ((z__law_take h).mono (by decide)) hr rfl takesD (dos_cons (dv 0) (dos_cons do_int dos_nil))) do_int) (do_call ((z__law_take h).mono (by decide)) hr rfl takesD (dos_cons (dv 0) (dos_cons do_int dos_nil)))) dos_nil)) (do_callBV call_lenZ rfl h.b_len (by decide +kernel) (dos_cons (dv 3) dos_nil))) (fun _ _ => rfl)) dos_nil)))) (dss_cons (dsn nd__law_bends_right 6 (do_call ((z__law_due_fits h).mono (by decide)) hr rfl takesD (dos_cons (dv 5) (dos_cons (dv 2) dos_nil)))) (dss_cons (dsn nd__law_bends_right 7 (do_call ((z_fits h).mono (by decide)) hr rfl takesD (dos_cons (dv 5) (dos_cons (dv 2) dos_nil)))) (dss_cons (ds_if (DW.dt (dw_or (dt_not (dt_val (do_callBV call_isiZ rfl h.b_isinstance (by decide +kernel) (dos_cons (dv 7) (dos_cons (do_bltn (v := .ty "bool") rfl h.b_bool (by decide +kernel) rfl rfl) dos_nil))) rfl)) (dw_or1 (dt_cmp (op_neZ hu) (dv 7) (dv 6) (by rfl))))) (dss_one (ds_ret do_bl)) dss_nil) (dss_cons (ds_if (dt_val (dv 6) rfl) (dss_cons (ds_if (dt_not (dt_val (do_call ((z__law_signs h).mono (by decide)) hr rfl takesD (dos_cons (do_ix ix_Z (do_call ((z__law_ask h).mono (by decide)) hr rfl takesD (dos_cons do_int (dos_cons (dv 5) (dos_cons (dv 2) dos_nil)))) do_int (fun _ _ => rfl)) (dos_cons (do_slH (dv 5) (do_un un_negZ do_int)) dos_nil))) rfl)) (dss_one (ds_ret do_bl)) dss_nil) (dss_one (ds_if (dt_not (dt_val (do_call ((z__law_signs h).mono (by decide)) hr rfl takesD (dos_cons (do_ix ix_Z (do_call ((z__law_ask h).mono (by decide)) hr rfl takesD (dos_cons do_int (dos_cons (dv 5) (dos_cons (dv 2) dos_nil)))) do_int (fun _ _ => rfl)) (dos_cons (do_call ((z__law_head h).mono (by decide)) hr rfl takesD (dos_cons (dv 5) (dos_cons (dv 2) dos_nil))) dos_nil))) rfl)) (dss_one (ds_ret do_bl)) dss_nil))) (dss_one (ds_if (DW.dt (dw_or (dt_cmp (op_neZ hu) (do_call ((z__law_ask h).mono (by decide)) hr rfl takesD (dos_cons do_int (dos_cons (dv 5) (dos_cons (dv 2) dos_nil)))) (do_tup (dos_cons do_str (dos_cons (do_un un_negZ do_int) dos_nil))) (by rfl)) (dw_or1 (dt_cmp (op_neZ hu) (do_call ((z__law_ask h).mono (by decide)) hr rfl takesD (dos_cons do_int (dos_cons (dv 5) (dos_cons (dv 2) dos_nil)))) (do_tup (dos_cons do_str (dos_cons (do_un un_negZ do_int) dos_nil))) (by rfl))))) (dss_one (ds_ret do_bl)) dss_nil))) (dss_cons (dsn nd__law_bends_right 8 (do_call ((z__law_ask h).mono (by decide)) hr rfl takesD (dos_cons do_int (dos_cons (dv 5) (dos_cons (dv 2) dos_nil))))) (dss_one (ds_if (dt_not (dt_val (do_call ((z__law_due_fits h).mono (by decide)) hr rfl takesD (dos_cons (dv 5) (dos_cons (do_bin op_addZ (dv 2) do_int) dos_nil))) rfl)) (dss_one (ds_if (dt_cmp (op_neZ hu) (dv 8) (do_tup (dos_cons do_str (dos_cons (do_un un_negZ do_int) dos_nil))) (by rfl)) (dss_one (ds_ret do_bl)) dss_nil)) (dss_one (ds_if (DW.dt (dw_or (dt_cmp (op_neZ hu) (do_ix ix_Z (dv 8) do_int (fun _ _ => rfl)) do_str (by rfl)) (dw_or1 (dt_not (dt_val (do_call ((z__law_signs h).mono (by decide)) hr rfl takesD (dos_cons (do_ix ix_Z (dv 8) do_int (fun _ _ => rfl)) (dos_cons (do_slL (dv 5) (do_callBV (call_max2Z rfl) rfl h.b_max (by decide +kernel) (dos_cons do_int (dos_cons (do_bin op_subZ (do_callBV call_lenZ rfl h.b_len (by decide +kernel) (dos_cons (dv 5) dos_nil)) (dv 2)) dos_nil)))) dos_nil))) rfl))))) (dss_one (ds_ret do_bl)) dss_nil))))))))))) (dss_one (ds_ret do_bl))))
theorem z__law_bends_right (h : HF K mg) : FnZ P w K mg base 7 "_law_bends_right" [1, 0, 0] sp__law_bends_right := by
  obtain ⟨f, fd, F, hm⟩ := h.f__law_bends_right
  exact fnZ_of F hm (fun _ _ _ _ _ _ us hl => match us, hl with | [_, _, _], _ => rfl) sc__law_bends_right rfl (by decide) (ds__law_bends_right h f) fun _ _ _ _ q => q.run

theorem nd__law_letters_right : (n__law_letters_right).Nodup := by decide +kernel
theorem sc__law_letters_right : FnScope n__law_letters_right ["draws"] (defScope (top 49)) := ⟨rfl, rfl, rfl, by decide +kernel, rfl, by decide +kernel, by decide +kernel⟩
theorem ds__law_letters_right (h : HF K mg) : ∀ (f : Addr) (cdv : Value) (A : Around) (outer : List PySem.Env) (s : Shared) (H : Hp) (E : XK), Room 2 (A.deeper (envOfC "_law_letters_right" (defScope (top 49)) s.heap.objs.size f cdv)) → DSs (cxD P w K mg base n__law_letters_right "_law_letters_right" (defScope (top 49)) f cdv A outer s H E) ⟨K, none⟩ (fun cls d _ H => E cls d H) ⟨(n__law_letters_right).length, ioOf 0 [1]⟩ (defBody (top 49)) w__law_letters_right := fun f cdv A outer s H E hr =>
  have hu := hr.units
  (dss_cons (dsn nd__law_letters_right 1 (do_bin op_addZ (do_bin op_mulZ (do_call ((z__law_take h).mono (by decide)) hr rfl takesD (dos_cons (dv 0) (dos_cons do_int dos_nil))) do_int) (do_call ((z__law_take h).mono (by decide)) hr rfl takesD (dos_cons (dv 0) (dos_cons do_int dos_nil))))) (dss_cons (ds_for passesD rfl (di_list (do_lst (dos_cons do_int (dos_cons do_int (dos_cons (dv 1) dos_nil))))) (pgn nd__law_letters_right 2) (tg_name (show 2 < 3 by decide) (show 2 ∉ ([0] : List Nat) by decide)) (dss_cons (ds_if (DW.dt (dw_and (dt_cmp op_ltZ (dv 2) do_int (by rfl)) (dw_and1 (dt_cmp op_isntZ (do_call ((z_is_letter h).mono (by decide)) hr rfl takesD (dos_cons (dv 2) dos_nil)) do_bl (by rfl))))) (dss_one (ds_ret do_bl)) dss_nil) (dss_one (ds_if (DW.dt (dw_and (dt_cmp op_geZ (dv 2) do_int (by rfl)) (dw_and1 (dt_cmp op_isntZ (do_call ((z_is_letter h).mono (by decide)) hr rfl takesD (dos_cons (dv 2) dos_nil)) do_bl (by rfl))))) (dss_one (ds_ret do_bl)) dss_nil)))) (dss_cons (ds_for passesD rfl (di_list (do_lst (dos_cons do_int (dos_cons (do_un un_negZ do_int) (dos_cons (do_un un_negZ do_int) (dos_cons (do_bin op_subZ (do_un un_negZ (dv 1)) do_int) (dos_cons do_bl (dos_cons do_bl (dos_cons do_non (dos_cons do_str (dos_cons (do_tup (dos_cons do_int dos_nil)) (dos_cons (do_lst (dos_cons do_int dos_nil)) dos_nil)))))))))))) (pgn nd__law_letters_right 2) (tg_name (show 2 < 3 by decide) (show 2 ∉ ([0] : List Nat) by decide)) (dss_one (ds_if (dt_cmp op_isntZ (do_call ((z_is_letter h).mono (by decide)) hr rfl takesD (dos_cons (dv 2) dos_nil)) do_bl (by rfl)) (dss_one (ds_ret do_bl)) dss_nil))) (dss_one (ds_ret (do_and (do_call ((z__law_int h).mono (by decide)) hr rfl takesD (dos_cons (do_glob (v := .int (-1)) rfl h.g_HOME.choose_spec ⟨_, rfl⟩ rfl) dos_nil)) (do_and (do_cmp (op_eqZ hu) (do_glob (v := .int (-1)) rfl h.g_HOME.choose_spec ⟨_, rfl⟩ rfl) (do_un un_negZ do_int) (by rfl)) (do_and (do_call ((z__law_int h).mono (by decide)) hr rfl takesD (dos_cons (do_glob (v := .int (-2)) rfl h.g_END.choose_spec ⟨_, rfl⟩ rfl) dos_nil)) (do_one (do_cmp (op_eqZ hu) (do_glob (v := .int (-2)) rfl h.g_END.choose_spec ⟨_, rfl⟩ rfl) (do_un un_negZ do_int) (by rfl)))))))))))
theorem z__law_letters_right (h : HF K mg) : FnZ P w K mg base 3 "_law_letters_right" [1] sp__law_letters_right := by
  obtain ⟨f, fd, F, hm⟩ := h.f__law_letters_right
  exact fnZ_of F hm (fun _ _ _ _ _ _ us hl => match us, hl with | [_], _ => rfl) sc__law_letters_right rfl (by decide) (ds__law_letters_right h f) fun _ _ _ _ q => q.run

theorem nd__law_refusals_right : (n__law_refusals_right).Nodup := by decide +kernel
theorem sc__law_refusals_right : FnScope n__law_refusals_right ["draws", "text", "length"] (defScope (top 50)) := ⟨rfl, rfl, rfl, by decide +kernel, rfl, by decide +kernel, by decide +kernel⟩
theorem ds__law_refusals_right (h : HF K mg) : ∀ (f : Addr) (cdv : Value) (A : Around) (outer : List PySem.Env) (s : Shared) (H : Hp) (E : XK), Room 6 (A.deeper (envOfC "_law_refusals_right" (defScope (top 50)) s.heap.objs.size f cdv)) → DSs (cxD P w K mg base n__law_refusals_right "_law_refusals_right" (defScope (top 50)) f cdv A outer s H E) ⟨K, none⟩ (fun cls d _ H => E cls d H) ⟨(n__law_refusals_right).length, ioOf 0 [1, 0, 0]⟩ (defBody (top 50)) w__law_refusals_right := fun f cdv A outer s H E hr =>
  have hu := hr.units
  (dss_cons (dsn nd__law_refusals_right 3 (do_ix ix_Z (do_lst (dos_cons do_int (dos_cons do_int (dos_cons do_bl (dos_cons do_non (dos_cons do_str (dos_cons do_int (dos_cons (do_un un_negZ do_int) dos_nil)))))))) (do_call ((z__law_take h).mono (by decide)) hr rfl takesD (dos_cons (dv 0) (dos_cons do_int dos_nil))) (fun _ _ => rfl))) (dss_cons (ds_for passesD rfl (di_range1 rfl h.b_range (dos_cons do_int dos_nil)) (pgn nd__law_refusals_right 4) (tg_name (show 4 < 6 by decide) (show 4 ∉ ([0] : List Nat) by decide)) (dss_one (ds_if (dt_cmp (op_neZ hu) (do_call ((z__law_named h).mono (by decide)) hr rfl takesD (dos_cons (dv 4) (dos_cons (dv 1) (dos_cons (dv 3) (dos_cons (do_un un_negZ do_int) dos_nil))))) do_str (by rfl)) (dss_one (ds_ret do_bl)) dss_nil))) (dss_cons (ds_for passesD rfl (di_range1 rfl h.b_range (dos_cons do_int dos_nil)) (pgn nd__law_refusals_right 4) (tg_name (show 4 < 6 by decide) (show 4 ∉ ([0] : List Nat) by decide)) (dss_one (ds_if (dt_cmp (op_neZ hu) (do_call ((z__law_ask h).mono (by decide)) hr rfl takesD (dos_cons (dv 4) (dos_cons do_non (dos_cons (dv 3) dos_nil)))) (do_tup (dos_cons do_str (dos_cons do_str dos_nil))) (by rfl)) (dss_one (ds_ret do_bl)) dss_nil))) (dss_cons (ds_if (DW.dt (dw_or (dt_cmp (op_neZ hu) (do_call ((z__law_ask h).mono (by decide)) hr rfl takesD (dos_cons do_int (dos_cons do_non (dos_cons do_int dos_nil)))) (do_tup (dos_cons do_str (dos_cons do_str dos_nil))) (by rfl)) (dw_or1 (dt_cmp (op_neZ hu) (do_call ((z__law_ask h).mono (by decide)) hr rfl takesD (dos_cons do_int (dos_cons do_non (dos_cons do_int dos_nil)))) (do_tup (dos_cons do_str (dos_cons (do_un un_negZ do_int) dos_nil))) (by rfl))))) (dss_one (ds_ret do_bl)) dss_nil) (dss_cons (dsn nd__law_refusals_right 5 (do_call ((z__law_take h).mono (by decide)) hr rfl takesD (dos_cons (dv 0) (dos_cons do_int dos_nil)))) (dss_cons (ds_if (dt_cmp (op_neZ hu) (do_call ((z__law_named h).mono (by decide)) hr rfl takesD (dos_cons do_int (dos_cons (dv 1) (dos_cons (dv 2) (dos_cons (do_ix ix_Z (do_lst (dos_cons do_int (dos_cons (do_bin op_addZ (do_callBV call_lenZ rfl h.b_len (by decide +kernel) (dos_cons (dv 1) dos_nil)) do_int) (dos_cons do_bl (dos_cons do_non dos_nil))))) (dv 5) (fun _ _ => rfl)) dos_nil))))) do_str (by rfl)) (dss_one (ds_ret do_bl)) dss_nil) (dss_one (ds_ret (do_cmp (op_eqZ hu) (do_call ((z__law_named h).mono (by decide)) hr rfl takesD (dos_cons do_int (dos_cons (dv 1) (dos_cons (dv 2) (dos_cons (do_ix ix_Z (do_lst (dos_cons (do_un un_negZ do_int) (dos_cons (do_bin op_addZ (do_callBV call_lenZ rfl h.b_len (by decide +kernel) (dos_cons (dv 1) dos_nil)) do_int) (dos_cons do_bl (dos_cons do_non dos_nil))))) (dv 5) (fun _ _ => rfl)) dos_nil))))) do_str (by rfl))))))))))
theorem z__law_refusals_right (h : HF K mg) : FnZ P w K mg base 7 "_law_refusals_right" [1, 0, 0] sp__law_refusals_right := by
  obtain ⟨f, fd, F, hm⟩ := h.f__law_refusals_right
  exact fnZ_of F hm (fun _ _ _ _ _ _ us hl => match us, hl with | [_, _, _], _ => rfl) sc__law_refusals_right rfl (by decide) (ds__law_refusals_right h f) fun _ _ _ _ q => q.run

theorem nd_law : (n_law).Nodup := by decide +kernel
theorem sc_law : FnScope n_law ["script"] (defScope (top 51)) := ⟨rfl, rfl, rfl, by decide +kernel, rfl, by decide +kernel, by decide +kernel⟩
theorem ds_law (h : HF K mg) : ∀ (f : Addr) (cdv : Value) (A : Around) (outer : List PySem.Env) (s : Shared) (H : Hp) (E : XK), Room 7 (A.deeper (envOfC "law" (defScope (top 51)) s.heap.objs.size f cdv)) → DSs (cxD P w K mg base n_law "law" (defScope (top 51)) f cdv A outer s H E) ⟨K, none⟩ (fun cls d _ H => E cls d H) ⟨(n_law).length, ioOf 0 [0]⟩ (defBody (top 51)) w_law := fun f cdv A outer s H E hr =>
  have hu := hr.units
  (dss_cons (dsn nd_law 1 (do_call ((z__law_draws h).mono (by decide)) hr rfl takesD (dos_cons (dv 0) dos_nil))) (dss_cons (dsn nd_law 2 (do_call ((z__law_take h).mono (by decide)) hr rfl takesD (dos_cons (dv 1) (dos_cons do_int dos_nil)))) (dss_cons (dsn nd_law 3 (do_bin op_addZ do_int (do_call ((z__law_take h).mono (by decide)) hr rfl takesD (dos_cons (dv 1) (dos_cons do_int dos_nil))))) (dss_cons (dsn nd_law 4 (do_call ((z__law_text h).mono (by decide)) hr rfl takesD (dos_cons (dv 1) (dos_cons (dv 3) dos_nil)))) (dss_cons (ds_if (dt_cmp (op_eqZ hu) (dv 2) do_int (by rfl)) (dss_one (dsn nd_law 4 (do_slH (do_bin op_mulZ (do_bin op_addZ (dv 4) (do_lst (dos_cons (do_bin op_mulZ do_int (do_call ((z__law_take h).mono (by decide)) hr rfl takesD (dos_cons (dv 1) (dos_cons do_int dos_nil)))) dos_nil))) do_int) do_int))) dss_nil) (dss_cons (ds_if (dt_cmp op_geZ (dv 2) do_int (by rfl)) (dss_one (dsn nd_law 3 (do_bin op_addZ do_int (do_bin op_modZ (do_callTV call_intZ rfl h.b_int (by decide +kernel) (dos_cons (do_bin op_addZ (do_bin op_mulZ (do_call ((z__law_take h).mono (by decide)) hr rfl takesD (dos_cons (dv 1) (dos_cons do_int dos_nil))) do_int) (do_call ((z__law_take h).mono (by decide)) hr rfl takesD (dos_cons (dv 1) (dos_cons do_int dos_nil)))) dos_nil)) do_int)))) dss_nil) (dss_cons (ds_if (DW.dt (dw_or (dt_not (dt_val (do_call ((z__law_windows_right h).mono (by decide)) hr rfl takesD (dos_cons (dv 4) (dos_cons (dv 3) dos_nil))) rfl)) (dw_or1 (dt_not (dt_val (do_call ((z__law_longer_right h).mono (by decide)) hr rfl takesD (dos_cons (dv 4) (dos_cons (dv 3) dos_nil))) rfl))))) (dss_one (ds_ret do_bl)) dss_nil) (dss_cons (ds_if (DW.dt (dw_or (dt_not (dt_val (do_call ((z__law_bends_right h).mono (by decide)) hr rfl takesD (dos_cons (dv 1) (dos_cons (dv 4) (dos_cons (dv 3) dos_nil)))) rfl)) (dw_or1 (dt_not (dt_val (do_call ((z__law_letters_right h).mono (by decide)) hr rfl takesD (dos_cons (dv 1) dos_nil)) rfl))))) (dss_one (ds_ret do_bl)) dss_nil) (dss_one (ds_ret (do_call ((z__law_refusals_right h).mono (by decide)) hr rfl takesD (dos_cons (dv 1) (dos_cons (dv 4) (dos_cons (dv 3) dos_nil))))))))))))))
theorem z_law (h : HF K mg) : FnZ P w K mg base 8 "law" [0] sp_law := by
  obtain ⟨f, fd, F, hm⟩ := h.f_law
  exact fnZ_of F hm (fun _ _ _ _ _ _ us hl => match us, hl with | [_], _ => rfl) sc_law rfl (by decide) (ds_law h f) fun _ _ _ _ q => q.run

end
end LK
set_option Elab.async false
set_option linter.all false
set_option maxRecDepth 100000
set_option maxHeartbeats 200000
/-! reading the program's defs -/
namespace LK
open Z
def isIntD : D → Bool | .int _ => true | _ => false
theorem s_is_int {d : D} {R Ed} (hd : (typD d).isSome = true) (h : R 0 (.bl (isIntD d)) [d]) : sp_is_int [d] R Ed := by
  refine ⟨?_⟩
  cases d <;> first | (simp [typD] at hd; done) | exact ⟨rfl, by decide, h⟩ | exact ⟨rfl, by decide, rfl, by decide, h⟩
theorem s_check {n l hi : Int} {nm : PySem.Str} {R Ed} (h1 : l ≤ n) (h2 : n ≤ hi) (h : R 0 (.int n) [.int n, .str nm, .int l, .int hi]) : sp_check_number [.int n, .str nm, .int l, .int hi] R Ed := by
  refine ⟨?_⟩
  refine s_is_int rfl ?_
  refine itF (c := decide (n < l)) (decide_eq_false (by omega)) ?_
  refine itF (c := decide (hi < n)) (decide_eq_false (by omega)) ?_
  exact h
/-- not an int between the two -/
def offD (d : D) (l hi : Int) : Prop := match d with
  | .int n => n < l ∨ hi < n
  | _ => (typD d).isSome = true
theorem s_checkX {d : D} {l hi : Int} {nm : PySem.Str} {R Ed} (h1 : offD d l hi) (h : Ed ("BadNumber", ["name"], [.str nm]) [d, .str nm, .int l, .int hi]) : sp_check_number [d, .str nm, .int l, .int hi] R Ed := by
  have hd : (typD d).isSome = true := by
    cases d <;> first | rfl | (simp only [offD] at h1; exact h1)
  refine ⟨?_⟩
  refine s_is_int hd ?_
  cases d with
  | int n =>
    by_cases e : n < l
    · refine itT (c := decide (n < l)) (decide_eq_true e) ?_
      exact And.intro rfl (And.intro (by decide) h)
    · refine itF (c := decide (n < l)) (decide_eq_false e) ?_
      refine itT (c := decide (hi < n)) (decide_eq_true (h1.elim (fun z => absurd z e) id)) ?_
      exact And.intro rfl (And.intro (by decide) h)
  | _ => first | (simp [typD] at hd; done) | exact And.intro rfl (And.intro (by decide) h)
def letD : D → Bool | .int n => decide (0 ≤ n) && decide (n ≤ 99) | _ => false
theorem s_is_letter {d : D} {R Ed} (hd : (typD d).isSome = true) (h : R 0 (.bl (letD d)) [d]) : sp_is_letter [d] R Ed := by
  refine ⟨?_⟩
  refine s_is_int hd ?_
  cases d with
  | int n =>
    by_cases e : 0 ≤ n
    · refine itT (c := decide (0 ≤ n)) (decide_eq_true e) ?_
      have h' : R 0 (.bl (decide (0 ≤ n) && decide (n ≤ 99))) [.int n] := h
      rw [decide_eq_true e] at h'
      exact h'
    · refine itF (c := decide (0 ≤ n)) (decide_eq_false e) ?_
      have h' : R 0 (.bl (decide (0 ≤ n) && decide (n ≤ 99))) [.int n] := h
      rw [decide_eq_false e] at h'
      exact h'
  | _ => first | (simp [typD] at hd; done) | exact h
/-- a letter -/
abbrev Let (n : Int) : Prop := 0 ≤ n ∧ n ≤ 99
theorem letD_int {n : Int} (h : Let n) : letD (.int n) = true := by simp [letD, h.1, h.2]
/-- a text, as a list or as a tuple -/
inductive Txt (xs : List Int) : D → Prop
  | l : Txt xs (li xs)
  | t : Txt xs (ti xs)
theorem s_row_of {xs : List Int} {d : D} {R Ed} (hd : Txt xs d) (h : R 0 (ti xs) [d]) : sp_row_of [d] R Ed := by
  refine ⟨?_⟩
  cases hd
  · exact And.intro (by decide) (And.intro rfl ⟨["list", "tuple"], rfl, by decide, h⟩)
  · exact And.intro (by decide) (And.intro rfl ⟨["list", "tuple"], rfl, by decide, h⟩)
theorem s_check_text {xs : List Int} {d : D} {R Ed} (hd : Txt xs d) (hl : ∀ x ∈ xs, Let x) (h60 : xs.length ≤ 60) (h : R 0 (ti xs) [d]) : sp_check_text [d] R Ed := by
  refine ⟨?_⟩
  refine s_row_of hd ?_
  refine forL_inv (fun items ρ => (∀ x ∈ items, ∃ i n : Int, x = .tup [.int i, .int n] ∧ Let n) ∧ ∃ s2 s3, ρ = [some (0, d), some (0, ti xs), s2, s3]) ⟨?_, none, none, rfl⟩ ?_ ?_
  · intro x hx
    obtain ⟨i, n, rfl, hn⟩ := enumL_mem hx
    exact ⟨i, n, rfl, hl n hn⟩
  · rintro ρ ⟨-, s2, s3, rfl⟩
    refine itF (c := decide ((60 : Int) < ((xs.map D.int).length : Nat))) (decide_eq_false (by rw [List.length_map]; omega)) ?_
    exact h
  · rintro x xs2 ρ K ⟨hx, s2, s3, rfl⟩ hk
    obtain ⟨i, n, rfl, hn⟩ := hx x List.mem_cons_self
    refine And.intro rfl ?_
    refine s_is_letter rfl ?_
    rw [letD_int hn]
    exact hk _ ⟨fun y hy => hx y (List.mem_cons_of_mem _ hy), _, _, rfl⟩
theorem s_signs_of {xs : List Int} {d : D} {R Ed} (hd : Txt xs d) (hl : ∀ x ∈ xs, Let x) (h60 : xs.length ≤ 60) (h : R 0 (ti (xs ++ [-2])) [d]) : sp_signs_of [d] R Ed := by
  refine ⟨?_⟩
  refine s_check_text hd hl h60 ?_
  refine And.intro (by decide) ?_
  refine And.intro (by rw [List.length_map]; show xs.length + 1 ≤ 1000000; omega) ?_
  have e : (xs.map D.int) ++ [D.int (-2)] = (xs ++ [-2]).map D.int := by simp
  exact (show R 0 (.tup (xs.map .int ++ [.int (-2)])) [d] by rw [e]; exact h)
/-- what stands behind: the node -/
def nodeF (ss : List Int) (L b : Nat) : List Int := if b = ss.length then [-1] else (((-1) :: ss.take b).drop (b + 1 - (L - 1)))
theorem node_len (ss : List Int) (L b : Nat) : (nodeF ss L b).length ≤ ss.length + 1 := by
  unfold nodeF
  split <;> simp <;> omega
theorem s_node {ss : List Int} {L b : Nat} {R Ed} (hL : 2 ≤ L) (hb : b ≤ ss.length) (h60 : ss.length ≤ 61) (h : R 0 (ti (nodeF ss L b)) [ti ss, .int L, .int b]) : sp__node [ti ss, .int L, .int b] R Ed := by
  refine ⟨?_⟩
  refine And.intro rfl (And.intro rfl ?_)
  by_cases e : b = ss.length
  · refine itT (by rw [eqB_int, List.length_map]; exact decide_eq_true (by omega)) ?_
    have h' : R 0 (ti [-1]) [ti ss, .int L, .int b] := by
      unfold nodeF at h
      rw [if_pos e] at h; exact h
    exact And.intro (by decide) h'
  · refine itF (by rw [eqB_int, List.length_map]; exact decide_eq_false (by omega)) ?_
    refine And.intro (by decide) ?_
    refine And.intro ?_ ?_
    · show 1 + (cut (ss.map D.int) none (some (b : Int))).length ≤ 1000000
      rw [cut_map, cut_to _ (by omega), List.length_map, List.length_take]
      omega
    refine And.intro trivial ?_
    have ec : cut (D.int (-1) :: cut (ss.map D.int) none (some (b : Int))) (some (1 - (L : Int))) none = (nodeF ss L b).map D.int := by
      rw [cut_map, cut_to _ (by omega), ← List.map_cons, cut_map, cut_last _ (by omega)]
      unfold nodeF
      rw [if_neg e, List.length_cons, List.length_take, Int.toNat_natCast, Nat.min_eq_left hb]
      congr 2; omega
    exact (show R 0 (.tup (cut (D.int (-1) :: cut (ss.map D.int) none (some (b : Int))) (some (1 - (L : Int))) none)) [ti ss, .int L, .int b] by rw [ec]; exact h)
/-- the window that ends at b -/
def winF (ss : List Int) (L b : Nat) : List Int := nodeF ss L b ++ [ss[b]?.getD 0]
theorem s_node' {ss : List Int} {L b : Nat} {i : Int} {R Ed} (hi : i = b) (hL : 2 ≤ L) (hb : b ≤ ss.length) (h60 : ss.length ≤ 61) (h : R 0 (ti (nodeF ss L b)) [ti ss, .int L, .int i]) : sp__node [ti ss, .int L, .int i] R Ed := by
  subst hi; exact s_node hL hb h60 h
theorem sg_get {ss : List Int} {b : Nat} {i : Int} (hi : i = b) (h : b < ss.length) : L2.atI (ss.map D.int) i = some (.int (ss[b]?.getD 0)) := by
  subst hi
  rw [Z.atI_map, Z.atI_nat _ (by omega) (by omega)]
  rw [List.getElem?_eq_getElem h]; rfl
theorem sg_len (xs : List Int) : (xs ++ [-2]).length = xs.length + 1 := by simp
theorem win_fold (ss : List Int) (L b : Nat) : (nodeF ss L b).map D.int ++ [.int (ss[b]?.getD 0)] = (winF ss L b).map .int := by simp [winF]
theorem s_node_behind {xs : List Int} {d : D} {L b : Nat} {R Ed} (hd : Txt xs d) (hl : ∀ x ∈ xs, Let x) (h60 : xs.length ≤ 60) (hL : 2 ≤ L) (hL2 : L ≤ 70) (hb : b ≤ xs.length + 1) (h : R 0 (ti (nodeF (xs ++ [-2]) L b)) [d, .int L, .int b]) : sp_node_behind [d, .int L, .int b] R Ed := by
  refine ⟨?_⟩
  refine s_signs_of hd hl h60 ?_
  refine s_check (by omega) (by omega) ?_
  refine s_check (by omega) (by rw [List.length_map, sg_len]; omega) ?_
  exact s_node hL (by rw [sg_len]; exact hb) (by rw [sg_len]; omega) h
theorem s_window_of {xs : List Int} {d : D} {L b : Nat} {R Ed} (hd : Txt xs d) (hl : ∀ x ∈ xs, Let x) (h60 : xs.length ≤ 60) (hL : 2 ≤ L) (hL2 : L ≤ 70) (hb : b ≤ xs.length) (h : R 0 (ti (winF (xs ++ [-2]) L b)) [d, .int L, .int (b + 1)]) : sp_window_of [d, .int L, .int (b + 1)] R Ed := by
  refine ⟨?_⟩
  refine s_signs_of hd hl h60 ?_
  refine s_check (by omega) (by omega) ?_
  refine s_check (by omega) (by rw [List.length_map, sg_len]; omega) ?_
  refine And.intro trivial ?_
  refine s_node' (b := b) (by show (b : Int) + 1 - 1 = b; omega) hL (by rw [sg_len]; omega) (by rw [sg_len]; omega) ?_
  refine And.intro trivial ?_
  refine Exists.intro _ (And.intro (sg_get (b := b) (by show (b : Int) + 1 - 1 = b; omega) (by rw [sg_len]; omega)) ?_)
  refine And.intro (by show 1 ≤ 1000; decide) ?_
  have hn := node_len (xs ++ [-2]) L b
  rw [sg_len] at hn
  refine And.intro (by rw [List.length_map]; show (nodeF (xs ++ [-2]) L b).length + 1 ≤ 1000000; omega) ?_
  exact (show R 0 (.tup ((nodeF (xs ++ [-2]) L b).map D.int ++ [.int ((xs ++ [-2])[b]?.getD 0)])) [d, .int L, .int (b + 1)] by rw [win_fold]; exact h)
end LK

set_option Elab.async false
set_option linter.all false
set_option maxRecDepth 100000
set_option maxHeartbeats 200000
namespace LK
open Z
theorem s_windows {xs : List Int} {d : D} {L : Nat} {R Ed} (hd : Txt xs d) (hl : ∀ x ∈ xs, Let x) (h60 : xs.length ≤ 60) (hL : 2 ≤ L) (hL2 : L ≤ 70) (h : R 0 (.tup ((List.range (xs.length + 1)).map fun b => ti (winF (xs ++ [-2]) L b))) [d, .int L]) : sp_windows [d, .int L] R Ed := by
  refine ⟨?_⟩
  refine s_signs_of hd hl h60 ?_
  refine s_check (by omega) (by omega) ?_
  refine And.intro (small_nat (by rw [List.length_map, sg_len]; omega)) ?_
  rw [rngL0 (n := xs.length + 1) (by rw [List.length_map, sg_len])]
  refine lcL_map (fun d => match d with | .int b => ti (winF (xs ++ [-2]) L b.toNat) | _ => .non) (fun d => ∃ b : Nat, d = .int b ∧ b ≤ xs.length) ?_ ?_ ?_ ?_
  · rintro x acc K ⟨b, rfl, hb⟩ hz hk
    refine s_node (b := b) hL (by rw [sg_len]; omega) (by rw [sg_len]; omega) ?_
    refine Exists.intro _ (And.intro (sg_get (b := b) rfl (by rw [sg_len]; omega)) ?_)
    refine And.intro (by show 1 ≤ 1000; decide) ?_
    have hn := node_len (xs ++ [-2]) L b
    rw [sg_len] at hn
    refine And.intro (by rw [List.length_map]; show (nodeF (xs ++ [-2]) L b).length + 1 ≤ 1000000; omega) ?_
    refine And.intro hz ?_
    exact (show K (acc ++ [.tup ((nodeF (xs ++ [-2]) L b).map D.int ++ [.int ((xs ++ [-2])[b]?.getD 0)])]) _ by rw [win_fold]; exact hk)
  · intro x hx
    obtain ⟨b, hb, rfl⟩ := List.mem_map.mp hx
    exact ⟨b, rfl, by have := List.mem_range.mp hb; omega⟩
  · rw [List.length_map, List.length_range]
    show 0 + (xs.length + 1) ≤ 1000000
    omega
  · have e : (((List.range (xs.length + 1)).map fun b : Nat => D.int (b : Int)).map fun d => match d with | .int b => ti (winF (xs ++ [-2]) L b.toNat) | _ => .non) = (List.range (xs.length + 1)).map fun b => ti (winF (xs ++ [-2]) L b) := by
      rw [List.map_map]; rfl
    exact (show R 0 (.tup ([] ++ _)) [d, .int L] by rw [List.nil_append, e]; exact h)
end LK

set_option Elab.async false
set_option linter.all false
set_option maxRecDepth 100000
set_option maxHeartbeats 200000
namespace LK
open Z
def gI : D → Int | .int n => n | _ => 0
def letB (n : Int) : Bool := decide (0 ≤ n) && decide (n ≤ 99)
def lastI (xs : List Int) : Int := xs.getLast?.getD 0
def headI (xs : List Int) : Int := xs.head?.getD 0
def fitsF (xs : List Int) (L : Nat) : Bool := (decide (lastI xs = -2) || letB (lastI xs)) && (if headI xs = -1 then decide (xs.length - 1 < L) && xs.dropLast.tail.all letB else decide (xs.length - 1 = L - 1) && xs.dropLast.all letB)
def fitsT (ds : List D) (L : Nat) : Bool := decide (2 ≤ ds.length) && (ds.all isIntD && fitsF (ds.map gI) L)
theorem bls_map {α : Type} (f : α → Bool) : ∀ xs : List α, bls? (xs.map fun x => D.bl (f x)) = some (xs.map f)
  | [] => rfl
  | x :: xs => by
    show (bls? (xs.map fun x => D.bl (f x))).map (f x :: ·) = _
    rw [bls_map f xs]; rfl
theorem ints_all : ∀ {ds : List D}, ds.all isIntD = true → ds = (ds.map gI).map D.int
  | [], _ => rfl
  | d :: ds, h => by
    rw [List.all_cons, Bool.and_eq_true] at h
    rw [List.map_cons, List.map_cons, ← ints_all h.2]
    cases d <;> first | rfl | (simp [isIntD] at h)
theorem gI_map (xs : List Int) : (xs.map D.int).map gI = xs := by
  rw [List.map_map]; exact List.map_id' xs
theorem all_int (xs : List Int) : (xs.map D.int).all isIntD = true := by
  rw [List.all_map]; exact List.all_eq_true.mpr fun x _ => rfl
theorem at_last {xs : List Int} (h : 1 ≤ xs.length) : L2.atI (xs.map D.int) (-1) = some (.int (lastI xs)) := by
  rw [Z.atI_map, Z.atI_last xs (by intro e; rw [e] at h; simp at h)]
  unfold lastI
  rw [List.getLast?_eq_some_getLast (by intro e; rw [e] at h; simp at h)]; rfl
theorem at_0 {xs : List Int} (h : 1 ≤ xs.length) : L2.atI (xs.map D.int) 0 = some (.int (headI xs)) := by
  rw [Z.atI_map, Z.atI_nat _ (by omega) (by omega)]
  cases xs with
  | nil => simp at h
  | cons x xs => rfl
theorem cut_init (xs : List Int) : cut (xs.map D.int) none (some (-1)) = xs.dropLast.map .int := by
  rw [cut_map, cut_but _ (by omega), List.dropLast_eq_take]; rfl
theorem cut_tail (xs : List Int) : cut (xs.map D.int) (some 1) none = xs.tail.map .int := by
  rw [cut_map, cut_from _ (by omega)]
  cases xs <;> rfl
theorem letD_all (xs : List Int) : (xs.map fun x => letD (.int x)).all id = xs.all letB := by
  rw [List.all_map]; rfl
theorem s_fitsX {d : D} {L : Nat} {R Ed} (hd : (typD d).isSome = true) (ht : isiB d "tuple" = false) (hL : 2 ≤ L) (hL2 : L ≤ 70) (h : R 0 (.bl false) [d, .int L]) : sp_fits [d, .int L] R Ed := by
  refine ⟨?_⟩
  refine s_check (by omega) (by omega) ?_
  refine And.intro hd (And.intro (by decide) ?_)
  refine itT (c := !(isiB d "tuple")) (by rw [ht]; rfl) ?_
  exact h
theorem s_fits {ds : List D} {L : Nat} {R Ed} (hd : ∀ d ∈ ds, (typD d).isSome = true) (hz : ds.length ≤ 1000) (hL : 2 ≤ L) (hL2 : L ≤ 70) (h : R 0 (.bl (fitsT ds L)) [.tup ds, .int L]) : sp_fits [.tup ds, .int L] R Ed := by
  refine ⟨?_⟩
  refine s_check (by omega) (by omega) ?_
  refine And.intro rfl (And.intro (by decide) ?_)
  unfold fitsT at h
  by_cases e2 : 2 ≤ ds.length
  · rw [decide_eq_true e2, Bool.true_and] at h
    refine itF (c := decide ((ds.length : Int) < 2)) (decide_eq_false (by omega)) ?_
    refine lcL_map (fun d => .bl (isIntD d)) (fun d => (typD d).isSome = true) ?_ hd (by show 0 + ds.length ≤ 1000000; omega) ?_
    · intro x acc K hx hz hk
      refine s_is_int hx ?_
      exact And.intro hz hk
    refine Exists.intro (ds.map isIntD) (And.intro (bls_map isIntD ds) ?_)
    by_cases e3 : ds.all isIntD = true
    · rw [e3, Bool.true_and] at h
      refine itF (c := !((ds.map isIntD).all id)) (by rw [List.all_map]; show (!ds.all isIntD) = false; rw [e3]; rfl) ?_
      have hds := ints_all e3
      generalize hxs : ds.map gI = xs at hds h
      subst hds
      rw [List.length_map] at e2 hz
      refine Exists.intro _ (And.intro (at_last (by omega)) ?_)
      refine And.intro rfl (And.intro rfl ?_)
      have hdl : 1 ≤ xs.dropLast.length := by rw [List.length_dropLast]; omega
      have hh : headI xs.dropLast = headI xs := by
        match xs, e2 with
        | x :: y :: r, _ => rfl
      -- the part behind the last sign's test
      have go : (fitsF xs L = if headI xs = -1 then decide (xs.length - 1 < L) && xs.dropLast.tail.all letB else decide (xs.length - 1 = L - 1) && xs.dropLast.all letB) →
          (wSeq (wAsg (.nm 2) (wE rSlH (w2 (wV 0) (wInt (wS (on1V negD) (w1 (wC (.int 1)))))))) (wSeq (wIfS (wB (wS (on2V eqD) (w2 (wE (on2 ixD) (w2 (wV 2) (wC (.int 0)))) (wC (.int (-1)))))) (wRet (wAnd (wS (on2V ltD) (w2 (wS (on1V lenD) (w1 (wV 2))) (wV 1))) (wS (on1V allD) (w1 (wLc (.nm 3) [3] (wIT (wE rSlL (w2 (wV 2) (wInt (wC (.int 1)))))) (wYes) (wCall [0] sp_is_letter (w1 (wV 3)))))))) (wNext)) (wRet (wAnd (wS (on2V eqD) (w2 (wS (on1V lenD) (w1 (wV 2))) (wE (on2 subD) (w2 (wV 1) (wC (.int 1)))))) (wS (on1V allD) (w1 (wLc (.nm 3) [3] (wIT (wV 2)) (wYes) (wCall [0] sp_is_letter (w1 (wV 3)))))))))) (defEnds [0, 0] [.tup (xs.map .int), .int L] R Ed) [some (0, .tup (xs.map .int)), some (0, .int L), none, none] := by
        intro ef
        rw [ef] at h
        refine Exists.intro _ (And.intro (show L2.atI (cut (xs.map D.int) none (some (-1))) 0 = some (.int (headI xs)) by rw [cut_init, at_0 hdl, hh]) ?_)
        refine And.intro rfl (And.intro rfl ?_)
        have el : (cut (xs.map D.int) none (some (-1))).length = xs.length - 1 := by rw [cut_init, List.length_map, List.length_dropLast]
        by_cases e6 : headI xs = -1
        · rw [if_pos e6] at h
          refine itT (c := eqB (.int (headI xs)) (.int (-1))) (by rw [eqB_int]; exact decide_eq_true e6) ?_
          by_cases e7 : xs.length - 1 < L
          · rw [decide_eq_true e7, Bool.true_and] at h
            refine itT (c := decide (((cut (xs.map D.int) none (some (-1))).length : Int) < L)) (decide_eq_true (by rw [el]; omega)) ?_
            refine lcL_map (items := cut (cut (xs.map D.int) none (some (-1))) (some 1) none) (fun d => .bl (letD d)) (fun d => (typD d).isSome = true) ?_ ?_ ?_ ?_
            · intro x acc K hx hz hk
              refine s_is_letter hx ?_
              exact And.intro hz hk
            · rw [cut_init, cut_tail]
              intro x hx
              obtain ⟨n, _, rfl⟩ := List.mem_map.mp hx
              rfl
            · rw [cut_init, cut_tail, List.length_map, List.length_tail, List.length_dropLast]
              show 0 + (xs.length - 1 - 1) ≤ 1000000
              omega
            · refine Exists.intro _ (And.intro (bls_map letD _) ?_)
              have ee : ((cut (cut (xs.map D.int) none (some (-1))) (some 1) none).map letD).all id = xs.dropLast.tail.all letB := by
                rw [cut_init, cut_tail, List.map_map, List.all_map]; rfl
              exact (show R 0 (.bl (((cut (cut (xs.map D.int) none (some (-1))) (some 1) none).map letD).all id)) _ by rw [ee]; exact h)
          · rw [decide_eq_false e7, Bool.false_and] at h
            refine itF (c := decide (((cut (xs.map D.int) none (some (-1))).length : Int) < L)) (decide_eq_false (by rw [el]; omega)) ?_
            exact h
        · rw [if_neg e6] at h
          refine itF (c := eqB (.int (headI xs)) (.int (-1))) (by rw [eqB_int]; exact decide_eq_false e6) ?_
          refine And.intro trivial ?_
          refine And.intro rfl (And.intro rfl ?_)
          by_cases e7 : xs.length - 1 = L - 1
          · rw [decide_eq_true e7, Bool.true_and] at h
            refine itT (c := eqB (.int ((cut (xs.map D.int) none (some (-1))).length : Int)) (.int ((L : Int) - 1))) (by rw [eqB_int, el]; exact decide_eq_true (by omega)) ?_
            refine lcL_map (items := cut (xs.map D.int) none (some (-1))) (fun d => .bl (letD d)) (fun d => (typD d).isSome = true) ?_ ?_ ?_ ?_
            · intro x acc K hx hz hk
              refine s_is_letter hx ?_
              exact And.intro hz hk
            · rw [cut_init]
              intro x hx
              obtain ⟨n, _, rfl⟩ := List.mem_map.mp hx
              rfl
            · rw [cut_init, List.length_map, List.length_dropLast]
              show 0 + (xs.length - 1) ≤ 1000000
              omega
            · refine Exists.intro _ (And.intro (bls_map letD _) ?_)
              have ee : ((cut (xs.map D.int) none (some (-1))).map letD).all id = xs.dropLast.all letB := by
                rw [cut_init, List.map_map, List.all_map]; rfl
              exact (show R 0 (.bl (((cut (xs.map D.int) none (some (-1))).map letD).all id)) _ by rw [ee]; exact h)
          · rw [decide_eq_false e7, Bool.false_and] at h
            refine itF (c := eqB (.int ((cut (xs.map D.int) none (some (-1))).length : Int)) (.int ((L : Int) - 1))) (by rw [eqB_int, el]; exact decide_eq_false (by omega)) ?_
            exact h
      by_cases e4 : lastI xs = -2
      · refine itF (c := !(eqB (.int (lastI xs)) (.int (-2)))) (by rw [eqB_int, decide_eq_true e4]; rfl) ?_
        refine go ?_
        unfold fitsF
        rw [decide_eq_true e4, Bool.true_or, Bool.true_and]
      · refine itT (c := !(eqB (.int (lastI xs)) (.int (-2)))) (by rw [eqB_int, decide_eq_false e4]; rfl) ?_
        refine Exists.intro _ (And.intro (at_last (by omega)) ?_)
        refine s_is_letter rfl ?_
        by_cases e5 : letB (lastI xs) = true
        · refine itF (c := !(letD (.int (lastI xs)))) (by show (!letB (lastI xs)) = false; rw [e5]; rfl) ?_
          refine go ?_
          unfold fitsF
          rw [e5, Bool.or_true, Bool.true_and]
        · refine itT (c := !(letD (.int (lastI xs)))) (by show (!letB (lastI xs)) = true; rw [Bool.eq_false_iff.mpr e5]; rfl) ?_
          have ef : fitsF xs L = false := by
            unfold fitsF
            rw [decide_eq_false e4, Bool.eq_false_iff.mpr e5]; rfl
          rw [ef] at h; exact h
    · rw [Bool.eq_false_iff.mpr e3, Bool.false_and] at h
      refine itT (c := !((ds.map isIntD).all id)) (by rw [List.all_map]; show (!ds.all isIntD) = true; rw [Bool.eq_false_iff.mpr e3]; rfl) ?_
      exact h
  · rw [decide_eq_false e2, Bool.false_and] at h
    refine itT (c := decide ((ds.length : Int) < 2)) (decide_eq_true (by omega)) ?_
    exact h
end LK

set_option Elab.async false
set_option linter.all false
set_option maxRecDepth 100000
set_option maxHeartbeats 200000
namespace LK
open Z
/-- a value that may be asked about -/
def okV (d : D) : Prop := (typD d).isSome = true ∧ ∀ ds, d = .tup ds → (∀ x ∈ ds, (typD x).isSome = true) ∧ ds.length ≤ 1000
def fitsD (d : D) (L : Nat) : Bool := match d with
  | .tup ds => fitsT ds L
  | _ => false
theorem s_fitsD {d : D} {L : Nat} {R Ed} (hd : okV d) (hL : 2 ≤ L) (hL2 : L ≤ 70) (h : R 0 (.bl (fitsD d L)) [d, .int L]) : sp_fits [d, .int L] R Ed := by
  obtain ⟨h1, h2⟩ := hd
  cases d with
  | tup ds => exact s_fits (h2 ds rfl).1 (h2 ds rfl).2 hL hL2 h
  | _ => first | (simp [typD] at h1; done) | exact s_fitsX rfl rfl hL hL2 h
theorem s_fitsD' {d : D} {L : Nat} {i : Int} {R Ed} (hi : i = L) (hd : okV d) (hL : 2 ≤ L) (hL2 : L ≤ 70) (h : R 0 (.bl (fitsD d L)) [d, .int i]) : sp_fits [d, .int i] R Ed := by
  subst hi; exact s_fitsD hd hL hL2 h
theorem okV_ti {xs : List Int} (h : xs.length ≤ 1000) : okV (ti xs) := ⟨rfl, fun ds e => by
  injection e with e
  subst e
  refine ⟨fun x hx => ?_, by rw [List.length_map]; exact h⟩
  obtain ⟨n, _, rfl⟩ := List.mem_map.mp hx
  rfl⟩
theorem fitsD_ti (xs : List Int) (L : Nat) : fitsD (ti xs) L = (decide (2 ≤ xs.length) && fitsF xs L) := by
  show fitsT (xs.map .int) L = _
  unfold fitsT
  rw [all_int, gI_map, List.length_map, Bool.true_and]
theorem fitsD_true {d : D} {L : Nat} (h : fitsD d L = true) : ∃ xs, d = ti xs ∧ 2 ≤ xs.length ∧ fitsF xs L = true := by
  cases d with
  | tup ds =>
    have h' : fitsT ds L = true := h
    unfold fitsT at h'
    rw [Bool.and_eq_true, Bool.and_eq_true] at h'
    obtain ⟨h1, h2, h3⟩ := h'
    exact ⟨ds.map gI, by rw [ti, ← ints_all h2], by rw [List.length_map]; exact of_decide_eq_true h1, h3⟩
  | _ => cases h
theorem s_tail_no {d : D} {L : Nat} {R Ed} (hd : okV d) (hf : fitsD d L = false) (hL : 2 ≤ L) (hL2 : L ≤ 70) (h : Ed ("BadWindow", ["place"], [.int (-1)]) [d, .int L]) : sp_tail_of [d, .int L] R Ed := by
  refine ⟨?_⟩
  refine s_fitsD hd hL hL2 ?_
  refine itT (c := !(fitsD d L)) (by rw [hf]; rfl) ?_
  exact And.intro rfl (And.intro (by decide) h)
theorem s_tail_ok {xs : List Int} {L : Nat} {R Ed} (hz : xs.length ≤ 1000) (hf : fitsD (ti xs) L = true) (hL : 2 ≤ L) (hL2 : L ≤ 70) (h : R 0 (ti xs.dropLast) [ti xs, .int L]) : sp_tail_of [ti xs, .int L] R Ed := by
  refine ⟨?_⟩
  refine s_fitsD (okV_ti hz) hL hL2 ?_
  refine itF (c := !(fitsD (ti xs) L)) (by rw [hf]; rfl) ?_
  exact (show R 0 (.tup (cut (xs.map D.int) none (some (-1)))) [ti xs, .int L] by rw [cut_init]; exact h)
theorem s_head_no {d : D} {L : Nat} {R Ed} (hd : okV d) (hf : fitsD d L = false) (hL : 2 ≤ L) (hL2 : L ≤ 70) (h : Ed ("BadWindow", ["place"], [.int (-1)]) [d, .int L]) : sp_head_of [d, .int L] R Ed := by
  refine ⟨?_⟩
  refine s_fitsD hd hL hL2 ?_
  refine itT (c := !(fitsD d L)) (by rw [hf]; rfl) ?_
  exact And.intro rfl (And.intro (by decide) h)
def hdF (xs : List Int) (L : Nat) : List Int := if lastI xs = -2 then [-1] else xs.drop (xs.length - (L - 1))
theorem s_head_ok {xs : List Int} {L : Nat} {R Ed} (hz : xs.length ≤ 1000) (h2 : 2 ≤ xs.length) (hf : fitsD (ti xs) L = true) (hL : 2 ≤ L) (hL2 : L ≤ 70) (h : R 0 (ti (hdF xs L)) [ti xs, .int L]) : sp_head_of [ti xs, .int L] R Ed := by
  refine ⟨?_⟩
  refine s_fitsD (okV_ti hz) hL hL2 ?_
  refine itF (c := !(fitsD (ti xs) L)) (by rw [hf]; rfl) ?_
  refine Exists.intro _ (And.intro (at_last (by omega)) ?_)
  refine And.intro rfl (And.intro rfl ?_)
  unfold hdF at h
  by_cases e : lastI xs = -2
  · rw [if_pos e] at h
    refine itT (c := eqB (.int (lastI xs)) (.int (-2))) (by rw [eqB_int]; exact decide_eq_true e) ?_
    exact And.intro (by decide) h
  · rw [if_neg e] at h
    refine itF (c := eqB (.int (lastI xs)) (.int (-2))) (by rw [eqB_int]; exact decide_eq_false e) ?_
    refine And.intro trivial ?_
    have ec : cut (xs.map D.int) (some (1 - (L : Int))) none = (xs.drop (xs.length - (L - 1))).map .int := by
      rw [cut_map, cut_last _ (by omega)]
      congr 2; omega
    exact (show R 0 (.tup (cut (xs.map D.int) (some (1 - (L : Int))) none)) [ti xs, .int L] by rw [ec]; exact h)
theorem s_cut_no {d : D} {L : Nat} {R Ed} (hd : okV d) (hf : fitsD d (L + 1) = false) (hL : 2 ≤ L) (hL2 : L ≤ 69) (h : Ed ("BadWindow", ["place"], [.int (-1)]) [d, .int L]) : sp_cut_window [d, .int L] R Ed := by
  refine ⟨?_⟩
  refine s_check (by omega) (by omega) ?_
  refine s_fitsD' (L := L + 1) rfl hd (by omega) (by omega) ?_
  refine itT (c := !(fitsD d (L + 1))) (by rw [hf]; rfl) ?_
  exact And.intro rfl (And.intro (by decide) h)
def cutF (xs : List Int) (L : Nat) : List Int := if xs.length = L + 1 then xs.tail else xs
theorem s_cut_ok {xs : List Int} {L : Nat} {R Ed} (hz : xs.length ≤ 1000) (hf : fitsD (ti xs) (L + 1) = true) (hL : 2 ≤ L) (hL2 : L ≤ 69) (h : R 0 (ti (cutF xs L)) [ti xs, .int L]) : sp_cut_window [ti xs, .int L] R Ed := by
  refine ⟨?_⟩
  refine s_check (by omega) (by omega) ?_
  refine s_fitsD' (L := L + 1) rfl (okV_ti hz) (by omega) (by omega) ?_
  refine itF (c := !(fitsD (ti xs) (L + 1))) (by rw [hf]; rfl) ?_
  refine And.intro rfl (And.intro rfl ?_)
  unfold cutF at h
  by_cases e : xs.length = L + 1
  · rw [if_pos e] at h
    refine itT (c := eqB (.int ((xs.map D.int).length : Nat)) (.int ((L : Int) + 1))) (by rw [eqB_int, List.length_map]; exact decide_eq_true (by omega)) ?_
    exact (show R 0 (.tup (cut (xs.map D.int) (some 1) none)) [ti xs, .int L] by rw [cut_tail]; exact h)
  · rw [if_neg e] at h
    refine itF (c := eqB (.int ((xs.map D.int).length : Nat)) (.int ((L : Int) + 1))) (by rw [eqB_int, List.length_map]; exact decide_eq_false (by omega)) ?_
    exact h
theorem s_cutX {d : D} {i : Int} {R Ed} (hi : i < 2 ∨ 69 < i) (h : Ed ("BadNumber", ["name"], [.str "length"]) [d, .int i]) : sp_cut_window [d, .int i] R Ed := by
  refine ⟨?_⟩
  exact s_checkX (l := 2) (hi := 69) hi h
end LK

set_option Elab.async false
set_option linter.all false
set_option maxRecDepth 100000
set_option maxHeartbeats 200000
namespace LK
open Z
theorem s_lint {d : D} {R Ed} (hd : (typD d).isSome = true) (h : R 0 (.bl (isIntD d)) [d]) : sp__law_int [d] R Ed := by
  refine ⟨?_⟩
  cases d <;> first | (simp [typD] at hd; done) | exact ⟨rfl, by decide, h⟩ | exact ⟨rfl, by decide, rfl, by decide, h⟩
theorem txt_at {xs : List Int} {d : D} (hd : Txt xs d) {b : Nat} (h : b < xs.length) {k : Nat → D → Prop} (hk : k 0 (.int (xs[b]?.getD 0))) : ixD d (.int b) k := by
  cases hd
  · exact ⟨_, sg_get rfl h, hk⟩
  · exact ⟨_, sg_get rfl h, hk⟩
theorem txt_len {xs : List Int} {d : D} (hd : Txt xs d) {k : D → Prop} (hk : k (.int xs.length)) : lenD d k := by
  cases hd
  · exact (show k (.int ((xs.map D.int).length : Nat)) by rw [List.length_map]; exact hk)
  · exact (show k (.int ((xs.map D.int).length : Nat)) by rw [List.length_map]; exact hk)
theorem s_lsigns {xs : List Int} {d : D} {R Ed} (hd : Txt xs d) (hz : xs.length ≤ 1000) (h : R 0 (.bl true) [ti xs, d]) : sp__law_signs [ti xs, d] R Ed := by
  refine ⟨?_⟩
  refine And.intro rfl (And.intro (by decide) ?_)
  refine txt_len hd ?_
  refine And.intro rfl (And.intro rfl ?_)
  refine itF (c := !(eqB (.int ((xs.map D.int).length : Nat)) (.int xs.length))) (by rw [eqB_int, List.length_map, decide_eq_true rfl]; rfl) ?_
  refine txt_len hd ?_
  refine And.intro (small_nat (by omega)) ?_
  rw [rngL0 (n := xs.length) rfl]
  refine forL_inv (fun items ρ => (∀ x ∈ items, ∃ b : Nat, x = .int b ∧ b < xs.length) ∧ ∃ s2, ρ = [some (0, ti xs), some (0, d), s2]) ⟨?_, none, rfl⟩ ?_ ?_
  · intro x hx
    obtain ⟨b, hb, rfl⟩ := List.mem_map.mp hx
    exact ⟨b, rfl, List.mem_range.mp hb⟩
  · rintro ρ ⟨-, s2, rfl⟩
    exact h
  · rintro x xs2 ρ K ⟨hx, s2, rfl⟩ hk
    obtain ⟨b, rfl, hb⟩ := hx x List.mem_cons_self
    refine Exists.intro _ (And.intro (sg_get (b := b) rfl hb) ?_)
    refine s_lint rfl ?_
    refine Exists.intro _ (And.intro (sg_get (b := b) rfl hb) ?_)
    refine txt_at hd hb ?_
    refine And.intro rfl (And.intro rfl ?_)
    refine itF (c := !(eqB (.int (xs[b]?.getD 0)) (.int (xs[b]?.getD 0)))) (by rw [eqB_int, decide_eq_true rfl]; rfl) ?_
    exact hk _ ⟨fun y hy => hx y (List.mem_cons_of_mem _ hy), _, rfl⟩
theorem mx_pos (e : Int) : 0 ≤ (if e > 0 then e else 0) := by split <;> omega
theorem mx_nat (e : Int) : (if e > 0 then e else 0).toNat = e.toNat := by split <;> omega
theorem s_lhead {xs : List Int} {L : Nat} {R Ed} (h2 : 2 ≤ xs.length) (hz : xs.length ≤ 1000) (hL : 2 ≤ L) (h : R 0 (ti (hdF xs L)) [ti xs, .int L]) : sp__law_head [ti xs, .int L] R Ed := by
  refine ⟨?_⟩
  refine Exists.intro _ (And.intro (at_last (by omega)) ?_)
  refine And.intro rfl (And.intro rfl ?_)
  unfold hdF at h
  by_cases e : lastI xs = -2
  · rw [if_pos e] at h
    refine itT (c := eqB (.int (lastI xs)) (.int (-2))) (by rw [eqB_int]; exact decide_eq_true e) ?_
    exact And.intro (by decide) h
  · rw [if_neg e] at h
    refine itF (c := eqB (.int (lastI xs)) (.int (-2))) (by rw [eqB_int]; exact decide_eq_false e) ?_
    refine And.intro trivial ?_
    have ec : cut (xs.map D.int) (some (if (((xs.map D.int).length : Nat) : Int) - (L : Int) + 1 > 0 then (((xs.map D.int).length : Nat) : Int) - (L : Int) + 1 else 0)) none = (xs.drop (xs.length - (L - 1))).map .int := by
      rw [cut_map, cut_from _ (mx_pos _), mx_nat, List.length_map]
      congr 2; omega
    exact (show R 0 (.tup (cut (xs.map D.int) (some (if (((xs.map D.int).length : Nat) : Int) - (L : Int) + 1 > 0 then (((xs.map D.int).length : Nat) : Int) - (L : Int) + 1 else 0)) none)) [ti xs, .int L] by rw [ec]; exact h)
theorem lc_id {t : Tgt} {xs : List Int} : ∀ acc : List Int, (acc.map D.int) ++ (xs.map D.int).map (fun d => d) = (acc ++ xs).map .int := fun acc => by simp
theorem s_lnode {xs : List Int} {L b : Nat} {R Ed} (h60 : xs.length ≤ 60) (hL : 2 ≤ L) (hb : b ≤ xs.length + 1) (h : R 0 (ti (nodeF (xs ++ [-2]) L b)) [li xs, .int L, .int b]) : sp__law_node [li xs, .int L, .int b] R Ed := by
  refine ⟨?_⟩
  refine And.intro rfl (And.intro rfl ?_)
  unfold nodeF at h
  rw [sg_len] at h
  by_cases e : b = xs.length + 1
  · rw [if_pos e] at h
    refine itT (c := eqB (.int b) (.int (((xs.map D.int).length : Nat) + 1))) (by rw [eqB_int, List.length_map]; exact decide_eq_true (by omega)) ?_
    exact And.intro (by decide) h
  · rw [if_neg e] at h
    refine itF (c := eqB (.int b) (.int (((xs.map D.int).length : Nat) + 1))) (by rw [eqB_int, List.length_map]; exact decide_eq_false (by omega)) ?_
    refine And.intro (by decide) ?_
    have ec : cut (xs.map D.int) none (some (b : Int)) = (xs.take b).map .int := by rw [cut_map, cut_to _ (by omega)]; rfl
    refine lcL_map (items := cut (xs.map D.int) none (some (b : Int))) (fun d => d) (fun _ => True) ?_ (fun _ _ => trivial) ?_ ?_
    · intro x acc K _ hz hk
      exact And.intro hz hk
    · rw [ec, List.length_map, List.length_take]
      show 0 + min b xs.length ≤ 1000000
      omega
    · refine And.intro ?_ ?_
      · rw [ec]
        show 1 + ([] ++ ((xs.take b).map D.int).map fun d => d).length ≤ 1000000
        rw [List.nil_append, List.length_map, List.length_map, List.length_take]
        omega
      refine And.intro trivial ?_
      have e2 : cut (D.int (-1) :: ([] ++ (cut (xs.map D.int) none (some (b : Int))).map fun d => d)) (some (if (b : Int) + 2 - L > 0 then (b : Int) + 2 - L else 0)) none = (((-1) :: (xs ++ [-2]).take b).drop (b + 1 - (L - 1))).map .int := by
        rw [ec, List.nil_append, List.map_id', List.take_append_of_le_length (by omega), ← List.map_cons, cut_map, cut_from _ (mx_pos _), mx_nat]
        congr 2; omega
      exact (show R 0 (.tup (cut (D.int (-1) :: ([] ++ (cut (xs.map D.int) none (some (b : Int))).map fun d => d)) (some (if (b : Int) + 2 - L > 0 then (b : Int) + 2 - L else 0)) none)) [li xs, .int L, .int b] by rw [e2]; exact h)
def lwF (xs : List Int) (L b : Nat) : List Int := ((-1 :: (xs ++ [-2])).take (b + 2)).drop (b + 2 - L)
theorem lw_win {xs : List Int} {L b : Nat} (hL : 2 ≤ L) (hb : b ≤ xs.length) : lwF xs L b = winF (xs ++ [-2]) L b := by
  unfold lwF winF nodeF
  have hl : b < (xs ++ [-2]).length := by rw [sg_len]; omega
  rw [if_neg (by omega), List.take_succ_cons, List.take_succ, ← List.cons_append, List.drop_append_of_le_length (by rw [List.length_cons, List.length_take]; omega), List.getElem?_eq_getElem hl]
  congr 2; omega
theorem s_lw {xs : List Int} {L : Nat} {R Ed} (h60 : xs.length ≤ 60) (hL : 2 ≤ L) (hL2 : L ≤ 70) (h : R 1 (.lst ((List.range (xs.length + 1)).map fun b => ti (winF (xs ++ [-2]) L b))) [li xs, .int L]) : sp__law_windows [li xs, .int L] R Ed := by
  refine ⟨?_⟩
  refine And.intro (by decide) ?_
  refine lcL_map (fun d => d) (fun _ => True) ?_ (fun _ _ => trivial) (by rw [List.length_map]; show 0 + xs.length ≤ 1000000; omega) ?_
  · intro x acc K _ hz hk
    exact And.intro hz hk
  refine And.intro ?_ ?_
  · rw [List.nil_append]; show 1 + ((xs.map D.int).map fun d => d).length ≤ 1000000; rw [List.length_map, List.length_map]; omega
  refine And.intro (by decide) ?_
  refine And.intro ?_ ?_
  · rw [List.nil_append, List.length_append]; show 1 + ((xs.map D.int).map fun d => d).length + 1 ≤ 1000000; rw [List.length_map, List.length_map]; omega
  have hlen : ((D.int (-1) :: ([] ++ (xs.map D.int).map fun d => d)) ++ [D.int (-2)]).length = xs.length + 2 := by simp
  have hsg : (D.int (-1) :: ([] ++ (xs.map D.int).map fun d => d)) ++ [D.int (-2)] = (-1 :: (xs ++ [-2])).map D.int := by simp
  refine And.intro (small_n (by omega) (by omega)) (And.intro (small_nat (n := ((D.int (-1) :: ([] ++ (xs.map D.int).map fun d => d)) ++ [D.int (-2)]).length) (by rw [hlen]; omega)) ?_)
  refine lcL_map (items := rngL 1 ((((D.int (-1) :: ([] ++ (xs.map D.int).map fun d => d)) ++ [D.int (-2)]).length : Int) - 1).toNat) (fun d => match d with | .int b => ti (winF (xs ++ [-2]) L (b.toNat - 1)) | _ => .non) (fun d => ∃ b : Nat, d = .int ((b : Int) + 1) ∧ b ≤ xs.length) ?_ ?_ ?_ ?_
  · rintro x acc K ⟨b, rfl, hb⟩ hz hk
    refine And.intro trivial ?_
    have ec : cut ((D.int (-1) :: ([] ++ (xs.map D.int).map fun d => d)) ++ [D.int (-2)]) (some (if (b : Int) + 1 - (L : Int) + 1 > 0 then (b : Int) + 1 - (L : Int) + 1 else 0)) (some ((b : Int) + 1 + 1)) = (winF (xs ++ [-2]) L b).map .int := by
      rw [hsg, cut_map, cut_two _ (mx_pos _) (by omega), mx_nat, ← lw_win hL hb]
      unfold lwF
      congr 2; omega
    refine And.intro hz ?_
    have hk' : K (acc ++ [ti (winF (xs ++ [-2]) L b)]) _ := hk
    exact (show K (acc ++ [.tup (cut ((D.int (-1) :: ([] ++ (xs.map D.int).map fun d => d)) ++ [D.int (-2)]) (some (if (b : Int) + 1 - (L : Int) + 1 > 0 then (b : Int) + 1 - (L : Int) + 1 else 0)) (some ((b : Int) + 1 + 1)))]) _ by rw [ec]; exact hk')
  · rw [hlen]
    intro x hx
    unfold rngL at hx
    obtain ⟨b, hb, rfl⟩ := List.mem_map.mp hx
    exact ⟨b, by congr 1; omega, by have := List.mem_range.mp hb; omega⟩
  · rw [rngL_len, hlen]
    show 0 + _ ≤ 1000000
    omega
  · have e : (rngL 1 ((((D.int (-1) :: ([] ++ (xs.map D.int).map fun d => d)) ++ [D.int (-2)]).length : Int) - 1).toNat).map (fun d => match d with | .int b => ti (winF (xs ++ [-2]) L (b.toNat - 1)) | _ => .non) = (List.range (xs.length + 1)).map fun b => ti (winF (xs ++ [-2]) L b) := by
      rw [hlen]
      have e1 : (((xs.length + 2 : Nat) : Int) - 1).toNat = xs.length + 1 := by omega
      rw [e1]
      unfold rngL
      rw [List.map_map]
      refine List.map_congr_left fun b _ => ?_
      show ti (winF (xs ++ [-2]) L ((1 + (b : Int)).toNat - 1)) = _
      congr 2; omega
    exact (show R 1 (.lst ([] ++ _)) [li xs, .int L] by rw [List.nil_append, e]; exact h)
end LK

set_option Elab.async false
set_option linter.all false
set_option maxRecDepth 100000
set_option maxHeartbeats 200000
namespace LK
open Z
def dropP (p : D → Bool) (d : D) : Option D := match p d with | true => none | false => some d
theorem fm0 (p : D → Bool) : ∀ ds : List D, decide ((ds.filterMap (dropP p)).length = 0) = ds.all p
  | [] => rfl
  | d :: ds => by
    rw [List.filterMap_cons, List.all_cons, ← fm0 p ds]
    unfold dropP
    cases p d <;> simp
theorem fm_le (p : D → Bool) (ds : List D) : (ds.filterMap (dropP p)).length ≤ ds.length := List.length_filterMap_le _ _
theorem s_ldue {d : D} {L : Nat} {R Ed} (hd : okV d) (hL : 2 ≤ L) (h : R 0 (.bl (fitsD d L)) [d, .int L]) : sp__law_due_fits [d, .int L] R Ed := by
  refine ⟨?_⟩
  obtain ⟨h1, h2⟩ := hd
  by_cases ht : isiB d "tuple" = true
  case neg =>
    refine And.intro h1 (And.intro (by decide) ?_)
    refine itT (c := !(isiB d "tuple")) (by rw [Bool.eq_false_iff.mpr ht]; rfl) ?_
    cases d <;> first | (simp [typD] at h1; done) | exact h | (exact absurd rfl ht)
  obtain ⟨ds, rfl⟩ : ∃ ds, d = .tup ds := by
    cases d <;> first | exact ⟨_, rfl⟩ | (simp [isiB] at ht)
  obtain ⟨hd, hz⟩ := h2 ds rfl
  have h : R 0 (.bl (fitsT ds L)) [.tup ds, .int L] := h
  refine And.intro rfl (And.intro (by decide) ?_)
  unfold fitsT at h
  by_cases e2 : 2 ≤ ds.length
  case neg =>
    rw [decide_eq_false e2, Bool.false_and] at h
    refine itT (c := decide ((ds.length : Int) < 2)) (decide_eq_true (by omega)) ?_
    exact h
  rw [decide_eq_true e2, Bool.true_and] at h
  refine itF (c := decide ((ds.length : Int) < 2)) (decide_eq_false (by omega)) ?_
  refine lcL_fm (dropP isIntD) (fun d => (typD d).isSome = true) ?_ hd (by show 0 + ds.length ≤ 1000000; omega) ?_
  · intro x acc K hx hz hk
    refine s_lint hx ?_
    unfold dropP at hk
    cases e : isIntD x with
    | true =>
      rw [e] at hk
      exact hk
    | false =>
      rw [e] at hk
      exact And.intro hz hk
  have f0 := fm0 isIntD ds
  by_cases e3 : ds.all isIntD = true
  case neg =>
    rw [Bool.eq_false_iff.mpr e3] at f0 h
    have f1 := of_decide_eq_false f0
    refine itT (c := decide ((0 : Int) < (([] ++ ds.filterMap (dropP isIntD)).length : Nat))) (decide_eq_true (by rw [List.nil_append]; omega)) ?_
    exact h
  rw [e3] at f0
  have f1 := of_decide_eq_true f0
  refine itF (c := decide ((0 : Int) < (([] ++ ds.filterMap (dropP isIntD)).length : Nat))) (decide_eq_false (by rw [List.nil_append]; omega)) ?_
  rw [e3, Bool.true_and] at h
  have hds := ints_all e3
  generalize hxs : ds.map gI = xs at hds h
  subst hds
  rw [List.length_map] at e2 hz
  have hdl : 1 ≤ xs.dropLast.length := by rw [List.length_dropLast]; omega
  have hh : headI xs.dropLast = headI xs := by
    match xs, e2 with
    | x :: y :: r, _ => rfl
  refine Exists.intro _ (And.intro (at_last (by omega)) ?_)
  refine And.intro rfl (And.intro rfl ?_)
  have el : (cut (xs.map D.int) none (some (-1))).length = xs.length - 1 := by rw [cut_init, List.length_map, List.length_dropLast]
  -- the last test: every sign is a letter
  have fin : ∀ (cs : List D) (ys : List Int), cs = ys.map .int → ys.length ≤ 1000 → R 0 (.bl (ys.all letB)) [ti xs, .int L] →
      (wRet (wS (on2V eqD) (w2 (wS (on1V lenD) (w1 (wLc (.nm 3) [3] (wIT (wV 2)) (wOrT (wB (wS (on2V ltD) (w2 (wV 3) (wC (.int 0))))) (wB (wS (on2V gtD) (w2 (wV 3) (wC (.int 99)))))) (wV 3)))) (wC (.int 0))))) (defEnds [0, 0] [ti xs, .int L] R Ed) [some (0, ti xs), some (0, .int L), some (0, .tup cs), none] := by
    rintro _ ys rfl hz h
    refine lcL_fm (dropP letD) (fun d => ∃ n : Int, d = .int n) ?_ ?_ ?_ ?_
    · rintro x acc K ⟨n, rfl⟩ hz hk
      unfold dropP at hk
      by_cases a : n < 0
      · refine itT (c := decide (n < 0)) (decide_eq_true a) ?_
        have e : letD (.int n) = false := by simp [letD]; omega
        rw [e] at hk
        exact And.intro hz hk
      · refine itF (c := decide (n < 0)) (decide_eq_false a) ?_
        by_cases b : 99 < n
        · refine itT (c := decide (99 < n)) (decide_eq_true b) ?_
          have e : letD (.int n) = false := by simp [letD]; omega
          rw [e] at hk
          exact And.intro hz hk
        · refine itF (c := decide (99 < n)) (decide_eq_false b) ?_
          have e : letD (.int n) = true := letD_int ⟨by omega, by omega⟩
          rw [e] at hk
          exact hk
    · intro x hx
      obtain ⟨n, _, rfl⟩ := List.mem_map.mp hx
      exact ⟨n, rfl⟩
    · rw [List.length_map]; show 0 + ys.length ≤ 1000000; omega
    refine And.intro rfl (And.intro rfl ?_)
    have e : eqB (.int (((([] : List D) ++ (ys.map D.int).filterMap (dropP letD)).length : Nat) : Int)) (.int 0) = ys.all letB := by
      rw [eqB_int, List.nil_append]
      have q := fm0 letD (ys.map D.int)
      rw [List.all_map] at q
      show _ = ys.all (letD ∘ D.int)
      rw [← q]
      exact decide_eq_decide.mpr (by omega)
    exact (show R 0 (.bl (eqB (.int (((([] : List D) ++ (ys.map D.int).filterMap (dropP letD)).length : Nat) : Int)) (.int 0))) [ti xs, .int L] by rw [e]; exact h)
  have go : (fitsF xs L = if headI xs = -1 then decide (xs.length - 1 < L) && xs.dropLast.tail.all letB else decide (xs.length - 1 = L - 1) && xs.dropLast.all letB) →
      (wSeq (wAsg (.nm 2) (wE rSlH (w2 (wV 0) (wInt (wS (on1V negD) (w1 (wC (.int 1)))))))) (wSeq (wIfS (wB (wS (on2V eqD) (w2 (wE (on2 ixD) (w2 (wV 2) (wC (.int 0)))) (wS (on1V negD) (w1 (wC (.int 1))))))) (wSeq (wAsg (.nm 2) (wE rSlL (w2 (wV 2) (wInt (wC (.int 1)))))) (wIfS (wB (wS (on2V gtD) (w2 (wS (on1V lenD) (w1 (wV 2))) (wE (on2 subD) (w2 (wV 1) (wC (.int 2))))))) (wRet (wC (.bl false))) (wNext))) (wIfS (wB (wS (on2V neD) (w2 (wS (on1V lenD) (w1 (wV 2))) (wE (on2 subD) (w2 (wV 1) (wC (.int 1))))))) (wRet (wC (.bl false))) (wNext))) (wRet (wS (on2V eqD) (w2 (wS (on1V lenD) (w1 (wLc (.nm 3) [3] (wIT (wV 2)) (wOrT (wB (wS (on2V ltD) (w2 (wV 3) (wC (.int 0))))) (wB (wS (on2V gtD) (w2 (wV 3) (wC (.int 99)))))) (wV 3)))) (wC (.int 0))))))) (defEnds [0, 0] [ti xs, .int L] R Ed) [some (0, ti xs), some (0, .int L), none, none] := by
    intro ef
    rw [ef] at h
    refine Exists.intro _ (And.intro (show L2.atI (cut (xs.map D.int) none (some (-1))) 0 = some (.int (headI xs)) by rw [cut_init, at_0 hdl, hh]) ?_)
    refine And.intro rfl (And.intro rfl ?_)
    by_cases e6 : headI xs = -1
    · rw [if_pos e6] at h
      refine itT (c := eqB (.int (headI xs)) (.int (-1))) (by rw [eqB_int]; exact decide_eq_true e6) ?_
      refine And.intro trivial ?_
      have el2 : (cut (cut (xs.map D.int) none (some (-1))) (some 1) none).length = xs.length - 2 := by rw [cut_init, cut_tail, List.length_map, List.length_tail, List.length_dropLast]; omega
      by_cases e7 : xs.length - 1 < L
      · rw [decide_eq_true e7, Bool.true_and] at h
        refine itF (c := decide ((L : Int) - 2 < ((cut (cut (xs.map D.int) none (some (-1))) (some 1) none).length : Nat))) (decide_eq_false (by rw [el2]; omega)) ?_
        exact fin (cut (cut (xs.map D.int) none (some (-1))) (some 1) none) xs.dropLast.tail (by rw [cut_init, cut_tail]) (by rw [List.length_tail, List.length_dropLast]; omega) h
      · rw [decide_eq_false e7, Bool.false_and] at h
        refine itT (c := decide ((L : Int) - 2 < ((cut (cut (xs.map D.int) none (some (-1))) (some 1) none).length : Nat))) (decide_eq_true (by rw [el2]; omega)) ?_
        exact h
    · rw [if_neg e6] at h
      refine itF (c := eqB (.int (headI xs)) (.int (-1))) (by rw [eqB_int]; exact decide_eq_false e6) ?_
      refine And.intro trivial ?_
      refine And.intro rfl (And.intro rfl ?_)
      by_cases e7 : xs.length - 1 = L - 1
      · rw [decide_eq_true e7, Bool.true_and] at h
        refine itF (c := !(eqB (.int ((cut (xs.map D.int) none (some (-1))).length : Int)) (.int ((L : Int) - 1)))) (by rw [eqB_int, el, decide_eq_true (by omega)]; rfl) ?_
        exact fin (cut (xs.map D.int) none (some (-1))) xs.dropLast (cut_init xs) (by rw [List.length_dropLast]; omega) h
      · rw [decide_eq_false e7, Bool.false_and] at h
        refine itT (c := !(eqB (.int ((cut (xs.map D.int) none (some (-1))).length : Int)) (.int ((L : Int) - 1)))) (by rw [eqB_int, el, decide_eq_false (by omega)]; rfl) ?_
        exact h
  by_cases e4 : lastI xs = -2
  · refine itF (c := !(eqB (.int (lastI xs)) (.int (-2)))) (by rw [eqB_int, decide_eq_true e4]; rfl) ?_
    refine go ?_
    unfold fitsF
    rw [decide_eq_true e4, Bool.true_or, Bool.true_and]
  · refine itT (c := !(eqB (.int (lastI xs)) (.int (-2)))) (by rw [eqB_int, decide_eq_false e4]; rfl) ?_
    refine Exists.intro _ (And.intro (at_last (by omega)) ?_)
    by_cases a : lastI xs < 0
    · refine itT (c := decide (lastI xs < 0)) (decide_eq_true a) ?_
      have ef : fitsF xs L = false := by
        unfold fitsF letB
        rw [decide_eq_false e4, decide_eq_false (show ¬ 0 ≤ lastI xs by omega)]; rfl
      rw [ef] at h; exact h
    · refine itF (c := decide (lastI xs < 0)) (decide_eq_false a) ?_
      refine Exists.intro _ (And.intro (at_last (by omega)) ?_)
      by_cases b : 99 < lastI xs
      · refine itT (c := decide (99 < lastI xs)) (decide_eq_true b) ?_
        have ef : fitsF xs L = false := by
          unfold fitsF letB
          rw [decide_eq_false e4, decide_eq_false (show ¬ lastI xs ≤ 99 by omega), Bool.and_false]; rfl
        rw [ef] at h; exact h
      · refine itF (c := decide (99 < lastI xs)) (decide_eq_false b) ?_
        refine go ?_
        unfold fitsF letB
        rw [decide_eq_true (show 0 ≤ lastI xs by omega), decide_eq_true (show lastI xs ≤ 99 by omega), Bool.and_self, Bool.or_true, Bool.true_and]
end LK

set_option Elab.async false
set_option linter.all false
set_option maxRecDepth 100000
set_option maxHeartbeats 200000
/-! the plain law of windows -/
namespace LK
open Z
section
variable {xs : List Int} {L b : Nat}
theorem node_lt (hb : b ≤ xs.length) : nodeF (xs ++ [-2]) L b = (-1 :: xs.take b).drop (b + 1 - (L - 1)) := by
  unfold nodeF
  rw [if_neg (by rw [sg_len]; omega), List.take_append_of_le_length hb]
theorem node_length (hb : b ≤ xs.length) : (nodeF (xs ++ [-2]) L b).length = min (b + 1) (L - 1) := by
  rw [node_lt hb, List.length_drop, List.length_cons, List.length_take]; omega
theorem win_length (hb : b ≤ xs.length) : (winF (xs ++ [-2]) L b).length = min (b + 1) (L - 1) + 1 := by
  unfold winF
  rw [List.length_append, node_length hb]; rfl
theorem win_init : (winF (xs ++ [-2]) L b).dropLast = nodeF (xs ++ [-2]) L b := by
  unfold winF; exact List.dropLast_concat
theorem win_last : lastI (winF (xs ++ [-2]) L b) = (xs ++ [-2])[b]?.getD 0 := by
  unfold winF lastI
  rw [List.getLast?_append]; rfl
theorem sg_lt (hb : b < xs.length) : (xs ++ [-2])[b]?.getD 0 = xs[b] := by
  rw [List.getElem?_append_left hb, List.getElem?_eq_getElem hb]; rfl
theorem sg_end : (xs ++ [-2])[xs.length]?.getD 0 = -2 := by simp
theorem all_let {ys : List Int} (h : ∀ x ∈ ys, Let x) : ys.all letB = true := List.all_eq_true.mpr fun x hx => by
  have := h x hx
  simp [letB, this.1, this.2]
theorem win_fits (hl : ∀ x ∈ xs, Let x) (hL : 2 ≤ L) (hb : b ≤ xs.length) : fitsF (winF (xs ++ [-2]) L b) L = true := by
  unfold fitsF
  rw [win_last, win_init, win_length hb]
  have h1 : (decide ((xs ++ [-2])[b]?.getD 0 = -2) || letB ((xs ++ [-2])[b]?.getD 0)) = true := by
    by_cases e : b = xs.length
    · subst e; rw [sg_end]; rfl
    · rw [sg_lt (by omega)]
      have := hl _ (List.getElem_mem (show b < xs.length by omega))
      simp [letB, this.1, this.2]
  rw [h1, Bool.true_and]
  by_cases e : b + 1 ≤ L - 1
  · have en : nodeF (xs ++ [-2]) L b = -1 :: xs.take b := by
      rw [node_lt hb, show b + 1 - (L - 1) = 0 by omega]; rfl
    have eh : headI (winF (xs ++ [-2]) L b) = -1 := by unfold winF; rw [en]; rfl
    rw [if_pos eh, en]
    show (_ && (xs.take b).all letB) = true
    rw [all_let fun x hx => hl x (List.mem_of_mem_take hx), Bool.and_true]
    exact decide_eq_true (by omega)
  · have en : nodeF (xs ++ [-2]) L b = (xs.take b).drop (b - (L - 1)) := by
      rw [node_lt hb, show b + 1 - (L - 1) = (b - (L - 1)) + 1 by omega]; rfl
    have ha : ∀ x ∈ nodeF (xs ++ [-2]) L b, Let x := by
      rw [en]; exact fun x hx => hl x (List.mem_of_mem_take (List.mem_of_mem_drop hx))
    have hlen := node_length (L := L) hb
    have eh : headI (winF (xs ++ [-2]) L b) ≠ -1 := by
      unfold winF headI
      cases q : nodeF (xs ++ [-2]) L b with
      | nil => rw [q] at hlen; simp at hlen; omega
      | cons y ys =>
        have := ha y (by rw [q]; exact List.mem_cons_self)
        show y ≠ -1
        have := this.1
        omega
    rw [if_neg eh, all_let ha, Bool.and_true]
    exact decide_eq_true (by omega)
theorem win_head (hl : ∀ x ∈ xs, Let x) (hL : 2 ≤ L) (hb : b ≤ xs.length) : hdF (winF (xs ++ [-2]) L b) L = nodeF (xs ++ [-2]) L (b + 1) := by
  unfold hdF
  rw [win_last]
  by_cases e : b = xs.length
  · subst e
    rw [sg_end, if_pos rfl]
    unfold nodeF
    rw [if_pos (by rw [sg_len])]
  · have hb' : b < xs.length := by omega
    rw [sg_lt hb']
    have := hl _ (List.getElem_mem hb')
    rw [if_neg (by have := this.1; omega), node_lt (b := b + 1) (by omega), win_length hb, ← lw_win hL hb]
    unfold lwF
    rw [List.drop_drop, List.take_succ_cons, List.take_append_of_le_length (by omega)]
    congr 1; omega
theorem win_ti (hl : ∀ x ∈ xs, Let x) (hL : 2 ≤ L) (hb : b ≤ xs.length) : fitsD (ti (winF (xs ++ [-2]) L b)) L = true := by
  rw [fitsD_ti, win_length hb, win_fits hl hL hb, Bool.and_true]
  exact decide_eq_true (by omega)
end
end LK

set_option Elab.async false
set_option linter.all false
set_option maxRecDepth 100000
set_option maxHeartbeats 400000
namespace LK
open Z
theorem W_at {m b : Nat} {i : Int} {f : Nat → D} (hi : i = b) (h : b < m) : L2.atI ((List.range m).map f) i = some (f b) := by
  subst hi
  rw [Z.atI_map, Z.atI_nat _ (by omega) (by rw [List.length_range]; omega)]
  simp
theorem W_len {m : Nat} {f : Nat → D} : ((List.range m).map f).length = m := by rw [List.length_map, List.length_range]
abbrev Wl (xs : List Int) (L : Nat) : List D := (List.range (xs.length + 1)).map fun b => ti (winF (xs ++ [-2]) L b)
theorem win_le {xs : List Int} {L b : Nat} (hb : b ≤ xs.length) (h60 : xs.length ≤ 60) : (winF (xs ++ [-2]) L b).length ≤ 1000 := by rw [win_length hb]; omega
theorem s_window_of' {xs : List Int} {d : D} {L b : Nat} {i : Int} {R Ed} (hi : i = b + 1) (hd : Txt xs d) (hl : ∀ x ∈ xs, Let x) (h60 : xs.length ≤ 60) (hL : 2 ≤ L) (hL2 : L ≤ 70) (hb : b ≤ xs.length) (h : R 0 (ti (winF (xs ++ [-2]) L b)) [d, .int L, .int i]) : sp_window_of [d, .int L, .int i] R Ed := by
  subst hi; exact s_window_of hd hl h60 hL hL2 hb h
theorem s_lnode' {xs : List Int} {L b : Nat} {i : Int} {R Ed} (hi : i = b) (h60 : xs.length ≤ 60) (hL : 2 ≤ L) (hb : b ≤ xs.length + 1) (h : R 0 (ti (nodeF (xs ++ [-2]) L b)) [li xs, .int L, .int i]) : sp__law_node [li xs, .int L, .int i] R Ed := by
  subst hi; exact s_lnode h60 hL hb h
theorem s_wright {xs : List Int} {L : Nat} {R Ed} (hl : ∀ x ∈ xs, Let x) (h60 : xs.length ≤ 60) (hL : 2 ≤ L) (hL2 : L ≤ 70) (h : R 0 (.bl true) [li xs, .int L]) : sp__law_windows_right [li xs, .int L] R Ed := by
  refine ⟨?_⟩
  refine s_lw h60 hL hL2 ?_
  refine lcL_map (fun d => d) (fun _ => True) ?_ (fun _ _ => trivial) (by rw [List.length_map]; show 0 + xs.length ≤ 1000000; omega) ?_
  · intro x acc K _ hz hk
    exact And.intro hz hk
  rw [List.nil_append, List.map_id']
  refine s_windows .l hl h60 hL hL2 ?_
  refine And.intro rfl (And.intro (by decide) ?_)
  refine And.intro rfl (And.intro rfl ?_)
  refine itF (c := !(eqB (.int ((Wl xs L).length : Nat)) (.int (((xs.map D.int).length : Nat) + 1)))) (by rw [eqB_int, W_len, List.length_map, decide_eq_true (by omega)]; rfl) ?_
  refine And.intro (pd_li xs) (And.intro (pd_li xs) ?_)
  refine itF (c := !(eqB (li xs) (li xs))) (by rw [eqB_li, decide_eq_true rfl]; rfl) ?_
  refine And.intro (small_nat (by rw [W_len]; omega)) ?_
  rw [rngL0 (n := xs.length + 1) (by rw [W_len])]
  refine forL_inv (fun items ρ => (∀ x ∈ items, ∃ b : Nat, x = .int b ∧ b ≤ xs.length) ∧ ∃ s5 s6 s7, ρ = [some (0, li xs), some (0, .int L), some (1, .lst (Wl xs L)), some (0, li xs), some (0, .tup (Wl xs L)), s5, s6, s7]) ⟨?_, none, none, none, rfl⟩ ?_ ?_
  · intro x hx
    obtain ⟨b, hb, rfl⟩ := List.mem_map.mp hx
    exact ⟨b, rfl, by have := List.mem_range.mp hb; omega⟩
  · rintro ρ ⟨-, s5, s6, s7, rfl⟩
    refine And.intro (small_n (by rw [List.length_map]; omega) (by rw [List.length_map]; omega)) ?_
    rw [rngL0 (n := xs.length + 2) (by rw [List.length_map]; omega)]
    refine forL_inv (fun items ρ => (∀ x ∈ items, ∃ b : Nat, x = .int b ∧ b ≤ xs.length + 1) ∧ ∃ s2 s5 s6 s7, ρ = [some (0, li xs), some (0, .int L), s2, some (0, li xs), some (0, .tup (Wl xs L)), s5, s6, s7]) ⟨?_, _, _, _, _, rfl⟩ ?_ ?_
    · intro x hx
      obtain ⟨b, hb, rfl⟩ := List.mem_map.mp hx
      exact ⟨b, rfl, by have := List.mem_range.mp hb; omega⟩
    · rintro ρ ⟨-, s2, s5, s6, s7, rfl⟩
      refine And.intro (pd_li xs) (And.intro (pd_li xs) ?_)
      have e : eqB (li xs) (li xs) = true := by rw [eqB_li, decide_eq_true rfl]
      exact (show R 0 (.bl (eqB (li xs) (li xs))) [li xs, .int L] by rw [e]; exact h)
    · rintro x xs2 ρ K ⟨hx, s2, s5, s6, s7, rfl⟩ hk
      obtain ⟨b, rfl, hb⟩ := hx x List.mem_cons_self
      refine s_node_behind .l hl h60 hL hL2 hb ?_
      refine s_lnode h60 hL hb ?_
      refine s_lsigns .t (by have := node_len (xs ++ [-2]) L b; rw [sg_len] at this; omega) ?_
      exact hk _ ⟨fun y hy => hx y (List.mem_cons_of_mem _ hy), _, _, _, _, rfl⟩
  · rintro x xs2 ρ K ⟨hx, s5, s6, s7, rfl⟩ hk
    obtain ⟨b, rfl, hb⟩ := hx x List.mem_cons_self
    refine Exists.intro _ (And.intro (W_at (b := b) rfl (by omega)) ?_)
    refine Exists.intro _ (And.intro (W_at (b := b) rfl (by omega)) ?_)
    refine s_lsigns .t (win_le hb h60) ?_
    refine Exists.intro _ (And.intro (W_at (b := b) rfl (by omega)) ?_)
    refine s_fitsD (okV_ti (win_le hb h60)) hL hL2 ?_
    rw [win_ti hl hL hb]
    refine s_window_of' (b := b) rfl .t hl h60 hL hL2 hb ?_
    refine Exists.intro _ (And.intro (W_at (b := b) rfl (by omega)) ?_)
    refine s_lsigns .t (win_le hb h60) ?_
    refine Exists.intro _ (And.intro (W_at (b := b) rfl (by omega)) ?_)
    refine s_tail_ok (win_le hb h60) (win_ti hl hL hb) hL hL2 ?_
    refine s_lnode h60 hL (by omega) ?_
    rw [win_init]
    refine s_lsigns .t (by have := node_len (xs ++ [-2]) L b; rw [sg_len] at this; omega) ?_
    refine Exists.intro _ (And.intro (W_at (b := b) rfl (by omega)) ?_)
    refine s_head_ok (win_le hb h60) (by rw [win_length hb]; omega) (win_ti hl hL hb) hL hL2 ?_
    refine s_lnode' (b := b + 1) rfl h60 hL (by omega) ?_
    rw [win_head hl hL hb]
    refine s_lsigns .t (by have := node_len (xs ++ [-2]) L (b + 1); rw [sg_len] at this; omega) ?_
    exact hk _ ⟨fun y hy => hx y (List.mem_cons_of_mem _ hy), _, _, _, rfl⟩
end LK

set_option Elab.async false
set_option linter.all false
set_option maxRecDepth 100000
set_option maxHeartbeats 400000
namespace LK
open Z
section
variable {xs : List Int} {L b : Nat}
theorem win_cut (hL : 2 ≤ L) (hb : b ≤ xs.length) : cutF (winF (xs ++ [-2]) (L + 1) b) L = winF (xs ++ [-2]) L b := by
  unfold cutF
  rw [win_length hb]
  by_cases e : L ≤ b + 1
  · rw [if_pos (by omega), ← lw_win (by omega) hb, ← lw_win hL hb]
    unfold lwF
    rw [← List.drop_one, List.drop_drop]
    congr 1; omega
  · rw [if_neg (by omega), ← lw_win (by omega) hb, ← lw_win hL hb]
    unfold lwF
    congr 1; omega
theorem node_up (hL : 2 ≤ L) (hb : b < xs.length) : nodeF (xs ++ [-2]) (L + 1) (b + 1) = winF (xs ++ [-2]) L b := by
  rw [← lw_win hL (by omega), node_lt (by omega)]
  unfold lwF
  rw [List.take_succ_cons, List.take_append_of_le_length (by omega)]
  congr 1
theorem win_all (hb : b ≤ xs.length) (hL : xs.length + 2 ≤ L) : winF (xs ++ [-2]) L b = (-1 :: (xs ++ [-2])).take (b + 2) := by
  rw [← lw_win (by omega) hb]
  unfold lwF
  rw [show b + 2 - L = 0 by omega, List.drop_zero]
end
theorem s_node_behind' {xs : List Int} {d : D} {L b : Nat} {i j : Int} {R Ed} (hi : i = L) (hj : j = b) (hd : Txt xs d) (hl : ∀ x ∈ xs, Let x) (h60 : xs.length ≤ 60) (hL : 2 ≤ L) (hL2 : L ≤ 70) (hb : b ≤ xs.length + 1) (h : R 0 (ti (nodeF (xs ++ [-2]) L b)) [d, .int i, .int j]) : sp_node_behind [d, .int i, .int j] R Ed := by
  subst hi hj; exact s_node_behind hd hl h60 hL hL2 hb h
theorem s_windows' {xs : List Int} {d : D} {L : Nat} {i : Int} {R Ed} (hi : i = L) (hd : Txt xs d) (hl : ∀ x ∈ xs, Let x) (h60 : xs.length ≤ 60) (hL : 2 ≤ L) (hL2 : L ≤ 70) (h : R 0 (.tup (Wl xs L)) [d, .int i]) : sp_windows [d, .int i] R Ed := by
  subst hi; exact s_windows hd hl h60 hL hL2 h
theorem s_ldue' {d : D} {L : Nat} {i : Int} {R Ed} (hi : i = L) (hd : okV d) (hL : 2 ≤ L) (h : R 0 (.bl (fitsD d L)) [d, .int i]) : sp__law_due_fits [d, .int i] R Ed := by
  subst hi; exact s_ldue hd hL h
theorem eqB_bl (b : Bool) : eqB (.bl b) (.bl b) = true := by cases b <;> rfl
theorem s_longer {xs : List Int} {L : Nat} {R Ed} (hl : ∀ x ∈ xs, Let x) (h60 : xs.length ≤ 60) (hL : 2 ≤ L) (hL2 : L ≤ 69) (h : R 0 (.bl true) [li xs, .int L]) : sp__law_longer_right [li xs, .int L] R Ed := by
  refine ⟨?_⟩
  refine s_lw h60 hL (by omega) ?_
  refine s_windows' (L := L + 1) rfl .l hl h60 (by omega) (by omega) ?_
  refine And.intro rfl (And.intro (by decide) ?_)
  refine And.intro rfl (And.intro rfl ?_)
  refine itF (c := !(eqB (.int ((Wl xs (L + 1)).length : Nat)) (.int ((Wl xs L).length : Nat)))) (by rw [eqB_int, W_len, W_len, decide_eq_true rfl]; rfl) ?_
  refine And.intro (small_nat (by rw [W_len]; omega)) ?_
  rw [rngL0 (n := xs.length + 1) (by rw [W_len])]
  refine forL_inv (fun items ρ => (∀ x ∈ items, ∃ b : Nat, x = .int b ∧ b ≤ xs.length) ∧ ∃ s4 s5, ρ = [some (0, li xs), some (0, .int L), some (1, .lst (Wl xs L)), some (0, .tup (Wl xs (L + 1))), s4, s5, none, none, none]) ⟨?_, none, none, rfl⟩ ?_ ?_
  · intro x hx
    obtain ⟨b, hb, rfl⟩ := List.mem_map.mp hx
    exact ⟨b, rfl, by have := List.mem_range.mp hb; omega⟩
  · rintro ρ ⟨-, s4, s5, rfl⟩
    refine s_windows' (L := xs.length + 2) (by rw [List.length_map]; rfl) .l hl h60 (by omega) (by omega) ?_
    refine s_windows' (L := 70) rfl .l hl h60 (by omega) (by omega) ?_
    refine And.intro rfl (And.intro rfl ?_)
    refine itF (c := !(eqB (.int ((Wl xs (xs.length + 2)).length : Nat)) (.int ((Wl xs 70).length : Nat)))) (by rw [eqB_int, W_len, W_len, decide_eq_true rfl]; rfl) ?_
    refine And.intro (by decide) ?_
    refine And.intro (by show 1 + (xs.map D.int).length ≤ 1000000; rw [List.length_map]; omega) ?_
    refine And.intro (by decide) ?_
    refine And.intro (by rw [List.length_append]; show 1 + (xs.map D.int).length + 1 ≤ 1000000; rw [List.length_map]; omega) ?_
    have hsg : (D.int (-1) :: xs.map D.int) ++ [D.int (-2)] = (-1 :: (xs ++ [-2])).map D.int := by simp
    refine And.intro (small_nat (by rw [W_len]; omega)) ?_
    rw [rngL0 (n := xs.length + 1) (by rw [W_len])]
    refine forL_inv (fun items ρ => (∀ x ∈ items, ∃ b : Nat, x = .int b ∧ b ≤ xs.length) ∧ ∃ s4, ρ = [some (0, li xs), some (0, .int L), some (1, .lst (Wl xs L)), some (0, .tup (Wl xs (L + 1))), s4, s5, some (0, .tup (Wl xs (xs.length + 2))), some (0, .tup (Wl xs 70)), some (1, .lst ((D.int (-1) :: xs.map D.int) ++ [D.int (-2)]))]) ⟨?_, s4, rfl⟩ ?_ ?_
    · intro x hx
      obtain ⟨b, hb, rfl⟩ := List.mem_map.mp hx
      exact ⟨b, rfl, by have := List.mem_range.mp hb; omega⟩
    · rintro ρ ⟨-, s4, rfl⟩
      exact h
    · rintro x xs2 ρ K ⟨hx, s4, rfl⟩ hk
      obtain ⟨b, rfl, hb⟩ := hx x List.mem_cons_self
      have ec : cut ((D.int (-1) :: xs.map D.int) ++ [D.int (-2)]) none (some ((b : Int) + 2)) = ((-1 :: (xs ++ [-2])).take (b + 2)).map .int := by
        rw [hsg, cut_map, cut_to _ (by omega)]; rfl
      have tx : Txt (winF (xs ++ [-2]) (xs.length + 2) b) (.lst (cut ((D.int (-1) :: xs.map D.int) ++ [D.int (-2)]) none (some ((b : Int) + 2)))) := by
        rw [ec, win_all hb (Nat.le_refl _)]; exact .l
      have tx2 : Txt (winF (xs ++ [-2]) 70 b) (.lst (cut ((D.int (-1) :: xs.map D.int) ++ [D.int (-2)]) none (some ((b : Int) + 2)))) := by
        rw [ec, win_all hb (by omega)]; exact .l
      refine Exists.intro _ (And.intro (W_at (b := b) rfl (by omega)) ?_)
      refine s_lsigns tx (win_le hb h60) ?_
      refine Exists.intro _ (And.intro (W_at (b := b) rfl (by omega)) ?_)
      refine s_lsigns tx2 (win_le hb h60) ?_
      exact hk _ ⟨fun y hy => hx y (List.mem_cons_of_mem _ hy), _, rfl⟩
  · rintro x xs2 ρ K ⟨hx, s4, s5, rfl⟩ hk
    obtain ⟨b, rfl, hb⟩ := hx x List.mem_cons_self
    refine Exists.intro _ (And.intro (W_at (b := b) rfl (by omega)) ?_)
    refine s_cut_ok (win_le hb h60) (win_ti hl (by omega) hb) hL hL2 ?_
    rw [win_cut hL hb]
    refine Exists.intro _ (And.intro (W_at (b := b) rfl (by omega)) ?_)
    refine s_lsigns .t (win_le hb h60) ?_
    have rest : (wSeq (wAsg (.nm 5) (wCall [0, 0] sp_fits (w2 (wE (on2 ixD) (w2 (wV 2) (wV 4))) (wE (on2 addD) (w2 (wV 1) (wC (.int 1))))))) (wIfS (wOrT (wNotT (wTru (wS (on2V isiD) (w2 (wV 5) (wC (.ty "bool")))))) (wB (wS (on2V neD) (w2 (wV 5) (wCall [0, 0] sp__law_due_fits (w2 (wE (on2 ixD) (w2 (wV 2) (wV 4))) (wE (on2 addD) (w2 (wV 1) (wC (.int 1)))))))))) (wRet (wC (.bl false))) (wNext))) { (defEnds [0, 0] [li xs, .int L] R Ed) with nx := K, ct := K, bk := fun ρ => False } [some (0, li xs), some (0, .int L), some (1, .lst (Wl xs L)), some (0, .tup (Wl xs (L + 1))), some (0, .int b), s5, none, none, none] := by
      refine Exists.intro _ (And.intro (W_at (b := b) rfl (by omega)) ?_)
      refine s_fitsD' (L := L + 1) rfl (okV_ti (win_le hb h60)) (by omega) (by omega) ?_
      refine And.intro rfl (And.intro (by decide) ?_)
      refine Exists.intro _ (And.intro (W_at (b := b) rfl (by omega)) ?_)
      refine s_ldue' (L := L + 1) rfl (okV_ti (win_le hb h60)) (by omega) ?_
      refine And.intro rfl (And.intro rfl ?_)
      refine itF (c := !(eqB (.bl (fitsD (ti (winF (xs ++ [-2]) L b)) (L + 1))) (.bl (fitsD (ti (winF (xs ++ [-2]) L b)) (L + 1))))) (by rw [eqB_bl]; rfl) ?_
      exact hk _ ⟨fun y hy => hx y (List.mem_cons_of_mem _ hy), _, _, rfl⟩
    by_cases e : b < xs.length
    · refine itT (c := decide ((b : Int) < ((xs.map D.int).length : Nat))) (decide_eq_true (by rw [List.length_map]; omega)) ?_
      refine s_node_behind' (L := L + 1) (b := b + 1) rfl rfl .l hl h60 (by omega) (by omega) (by omega) ?_
      rw [node_up hL e]
      refine Exists.intro _ (And.intro (W_at (b := b) rfl (by omega)) ?_)
      refine s_lsigns .t (win_le hb h60) ?_
      exact rest
    · refine itF (c := decide ((b : Int) < ((xs.map D.int).length : Nat))) (decide_eq_false (by rw [List.length_map]; omega)) ?_
      exact rest
end LK

set_option Elab.async false
set_option linter.all false
set_option maxRecDepth 100000
set_option maxHeartbeats 400000
namespace LK
open Z
abbrev winX : D := .tup [.str "window", .int (-1)]
abbrev numX : D := .tup [.str "number", .str "length"]
abbrev toldX (d : D) : D := .tup [.str "told", d]
theorem s_fits_num {d v : D} {R Ed} (h1 : offD v 2 70) (h : Ed ("BadNumber", ["name"], [.str "length"]) [d, v]) : sp_fits [d, v] R Ed := by
  refine ⟨?_⟩
  exact s_checkX h1 h
theorem s_tail_num {d v : D} {R Ed} (h1 : offD v 2 70) (h : Ed ("BadNumber", ["name"], [.str "length"]) [d, v]) : sp_tail_of [d, v] R Ed := by
  refine ⟨?_⟩
  exact s_fits_num h1 h
theorem s_head_num {d v : D} {R Ed} (h1 : offD v 2 70) (h : Ed ("BadNumber", ["name"], [.str "length"]) [d, v]) : sp_head_of [d, v] R Ed := by
  refine ⟨?_⟩
  exact s_fits_num h1 h
theorem s_cut_num {d v : D} {R Ed} (h1 : offD v 2 69) (h : Ed ("BadNumber", ["name"], [.str "length"]) [d, v]) : sp_cut_window [d, v] R Ed := by
  refine ⟨?_⟩
  exact s_checkX h1 h
theorem ok7 {a b c d e : Slot} {n : Nat} {v : D} (hv : noX v = true) : okBack [a, b, c, d, e, none, none] [a, b, c, d, some (n, v), none, none] := ⟨.inl rfl, .inl rfl, .inl rfl, .inl rfl, .inr hv, .inl rfl, .inl rfl, trivial⟩
section
variable {d : D} {L : Nat} {xs : List Int} {R : Nat → D → List D → Prop} {Ed : Exn → List D → Prop}
theorem ask0_no (hd : okV d) (hf : fitsD d L = false) (hL : 2 ≤ L) (hL2 : L ≤ 70) (h : R 0 winX [.int 0, d, .int L]) : sp__law_ask [.int 0, d, .int L] R Ed := by
  refine ⟨?_⟩
  refine And.intro rfl (And.intro rfl ?_)
  refine itT (c := eqB (.int 0) (.int 0)) rfl ?_
  refine s_tail_no hd hf hL hL2 ?_
  exact And.intro rfl (And.intro (by decide) (And.intro (ok7 rfl) h))
theorem ask1_no (hd : okV d) (hf : fitsD d L = false) (hL : 2 ≤ L) (hL2 : L ≤ 70) (h : R 0 winX [.int 1, d, .int L]) : sp__law_ask [.int 1, d, .int L] R Ed := by
  refine ⟨?_⟩
  refine And.intro rfl (And.intro rfl ?_)
  refine itF (c := eqB (.int 1) (.int 0)) rfl ?_
  refine And.intro rfl (And.intro rfl ?_)
  refine itT (c := eqB (.int 1) (.int 1)) rfl ?_
  refine s_head_no hd hf hL hL2 ?_
  exact And.intro rfl (And.intro (by decide) (And.intro (ok7 rfl) h))
theorem ask2_no (hd : okV d) (hf : fitsD d (L + 1) = false) (hL : 2 ≤ L) (hL2 : L ≤ 69) (h : R 0 winX [.int 2, d, .int L]) : sp__law_ask [.int 2, d, .int L] R Ed := by
  refine ⟨?_⟩
  refine And.intro rfl (And.intro rfl ?_)
  refine itF (c := eqB (.int 2) (.int 0)) rfl ?_
  refine And.intro rfl (And.intro rfl ?_)
  refine itF (c := eqB (.int 2) (.int 1)) rfl ?_
  refine s_cut_no hd hf hL hL2 ?_
  exact And.intro rfl (And.intro (by decide) (And.intro (ok7 rfl) h))
theorem ask0_ok (hz : xs.length ≤ 1000) (hf : fitsD (ti xs) L = true) (hL : 2 ≤ L) (hL2 : L ≤ 70) (h : R 0 (toldX (ti xs.dropLast)) [.int 0, ti xs, .int L]) : sp__law_ask [.int 0, ti xs, .int L] R Ed := by
  refine ⟨?_⟩
  refine And.intro rfl (And.intro rfl ?_)
  refine itT (c := eqB (.int 0) (.int 0)) rfl ?_
  refine s_tail_ok hz hf hL hL2 ?_
  exact And.intro (by show 2 ≤ 1000; decide) h
theorem ask1_ok (hz : xs.length ≤ 1000) (h2 : 2 ≤ xs.length) (hf : fitsD (ti xs) L = true) (hL : 2 ≤ L) (hL2 : L ≤ 70) (h : R 0 (toldX (ti (hdF xs L))) [.int 1, ti xs, .int L]) : sp__law_ask [.int 1, ti xs, .int L] R Ed := by
  refine ⟨?_⟩
  refine And.intro rfl (And.intro rfl ?_)
  refine itF (c := eqB (.int 1) (.int 0)) rfl ?_
  refine And.intro rfl (And.intro rfl ?_)
  refine itT (c := eqB (.int 1) (.int 1)) rfl ?_
  refine s_head_ok hz h2 hf hL hL2 ?_
  exact And.intro (by show 2 ≤ 1000; decide) h
theorem ask2_ok (hz : xs.length ≤ 1000) (hf : fitsD (ti xs) (L + 1) = true) (hL : 2 ≤ L) (hL2 : L ≤ 69) (h : R 0 (toldX (ti (cutF xs L))) [.int 2, ti xs, .int L]) : sp__law_ask [.int 2, ti xs, .int L] R Ed := by
  refine ⟨?_⟩
  refine And.intro rfl (And.intro rfl ?_)
  refine itF (c := eqB (.int 2) (.int 0)) rfl ?_
  refine And.intro rfl (And.intro rfl ?_)
  refine itF (c := eqB (.int 2) (.int 1)) rfl ?_
  refine s_cut_ok hz hf hL hL2 ?_
  exact And.intro (by show 2 ≤ 1000; decide) h
theorem ask0_num {v : D} (h1 : offD v 2 70) (h : R 0 numX [.int 0, d, v]) : sp__law_ask [.int 0, d, v] R Ed := by
  refine ⟨?_⟩
  refine And.intro rfl (And.intro rfl ?_)
  refine itT (c := eqB (.int 0) (.int 0)) rfl ?_
  refine s_tail_num h1 ?_
  exact And.intro rfl (And.intro (by decide) (And.intro (ok7 rfl) h))
theorem ask1_num {v : D} (h1 : offD v 2 70) (h : R 0 numX [.int 1, d, v]) : sp__law_ask [.int 1, d, v] R Ed := by
  refine ⟨?_⟩
  refine And.intro rfl (And.intro rfl ?_)
  refine itF (c := eqB (.int 1) (.int 0)) rfl ?_
  refine And.intro rfl (And.intro rfl ?_)
  refine itT (c := eqB (.int 1) (.int 1)) rfl ?_
  refine s_head_num h1 ?_
  exact And.intro rfl (And.intro (by decide) (And.intro (ok7 rfl) h))
theorem ask2_num {v : D} (h1 : offD v 2 69) (h : R 0 numX [.int 2, d, v]) : sp__law_ask [.int 2, d, v] R Ed := by
  refine ⟨?_⟩
  refine And.intro rfl (And.intro rfl ?_)
  refine itF (c := eqB (.int 2) (.int 0)) rfl ?_
  refine And.intro rfl (And.intro rfl ?_)
  refine itF (c := eqB (.int 2) (.int 1)) rfl ?_
  refine s_cut_num h1 ?_
  exact And.intro rfl (And.intro (by decide) (And.intro (ok7 rfl) h))
end
end LK

set_option Elab.async false
set_option linter.all false
set_option maxRecDepth 100000
set_option maxHeartbeats 400000
namespace LK
open Z
theorem ok7b {a b c d e f : Slot} {n : Nat} {v : D} (hv : noX v = true) : okBack [a, b, c, d, e, f, none] [a, b, c, d, e, some (n, v), none] := ⟨.inl rfl, .inl rfl, .inl rfl, .inl rfl, .inl rfl, .inr hv, .inl rfl, trivial⟩
section
variable {d v a : D} {L : Nat} {xs : List Int} {R : Nat → D → List D → Prop} {Ed : Exn → List D → Prop}
theorem win_num (hd : Txt xs d) (hl : ∀ x ∈ xs, Let x) (h60 : xs.length ≤ 60) (h1 : offD v 2 70) (h : Ed ("BadNumber", ["name"], [.str "length"]) [d, v]) : sp_windows [d, v] R Ed := by
  refine ⟨?_⟩
  refine s_signs_of hd hl h60 ?_
  exact s_checkX h1 h
theorem wof_num (hd : Txt xs d) (hl : ∀ x ∈ xs, Let x) (h60 : xs.length ≤ 60) (h1 : offD v 2 70) (h : Ed ("BadNumber", ["name"], [.str "length"]) [d, v, a]) : sp_window_of [d, v, a] R Ed := by
  refine ⟨?_⟩
  refine s_signs_of hd hl h60 ?_
  exact s_checkX h1 h
theorem nb_num (hd : Txt xs d) (hl : ∀ x ∈ xs, Let x) (h60 : xs.length ≤ 60) (h1 : offD v 2 70) (h : Ed ("BadNumber", ["name"], [.str "length"]) [d, v, a]) : sp_node_behind [d, v, a] R Ed := by
  refine ⟨?_⟩
  refine s_signs_of hd hl h60 ?_
  exact s_checkX h1 h
theorem wof_sign (hd : Txt xs d) (hl : ∀ x ∈ xs, Let x) (h60 : xs.length ≤ 60) (hL : 2 ≤ L) (hL2 : L ≤ 70) (h1 : offD a 1 (xs.length + 1)) (h : Ed ("BadNumber", ["name"], [.str "sign"]) [d, .int L, a]) : sp_window_of [d, .int L, a] R Ed := by
  refine ⟨?_⟩
  refine s_signs_of hd hl h60 ?_
  refine s_check (by omega) (by omega) ?_
  refine s_checkX (by rw [List.length_map, sg_len]; exact h1) ?_
  exact h
theorem nb_behind (hd : Txt xs d) (hl : ∀ x ∈ xs, Let x) (h60 : xs.length ≤ 60) (hL : 2 ≤ L) (hL2 : L ≤ 70) (h1 : offD a 0 (xs.length + 1)) (h : Ed ("BadNumber", ["name"], [.str "behind"]) [d, .int L, a]) : sp_node_behind [d, .int L, a] R Ed := by
  refine ⟨?_⟩
  refine s_signs_of hd hl h60 ?_
  refine s_check (by omega) (by omega) ?_
  refine s_checkX (by rw [List.length_map, sg_len]; exact h1) ?_
  exact h
theorem nm0 (hd : Txt xs d) (hl : ∀ x ∈ xs, Let x) (h60 : xs.length ≤ 60) (h1 : offD v 2 70) (h : R 0 (.str "length") [.int 0, d, v, a]) : sp__law_named [.int 0, d, v, a] R Ed := by
  refine ⟨?_⟩
  refine And.intro rfl (And.intro rfl ?_)
  refine itT (c := eqB (.int 0) (.int 0)) rfl ?_
  refine win_num hd hl h60 h1 ?_
  exact And.intro rfl (And.intro (ok7b rfl) h)
theorem nm1 (hd : Txt xs d) (hl : ∀ x ∈ xs, Let x) (h60 : xs.length ≤ 60) (h1 : offD v 2 70) (h : R 0 (.str "length") [.int 1, d, v, a]) : sp__law_named [.int 1, d, v, a] R Ed := by
  refine ⟨?_⟩
  refine And.intro rfl (And.intro rfl ?_)
  refine itF (c := eqB (.int 1) (.int 0)) rfl ?_
  refine And.intro rfl (And.intro rfl ?_)
  refine itT (c := eqB (.int 1) (.int 1)) rfl ?_
  refine wof_num hd hl h60 h1 ?_
  exact And.intro rfl (And.intro (ok7b rfl) h)
theorem nm2 (hd : Txt xs d) (hl : ∀ x ∈ xs, Let x) (h60 : xs.length ≤ 60) (h1 : offD v 2 70) (h : R 0 (.str "length") [.int 2, d, v, a]) : sp__law_named [.int 2, d, v, a] R Ed := by
  refine ⟨?_⟩
  refine And.intro rfl (And.intro rfl ?_)
  refine itF (c := eqB (.int 2) (.int 0)) rfl ?_
  refine And.intro rfl (And.intro rfl ?_)
  refine itF (c := eqB (.int 2) (.int 1)) rfl ?_
  refine And.intro rfl (And.intro rfl ?_)
  refine itT (c := eqB (.int 2) (.int 2)) rfl ?_
  refine nb_num hd hl h60 h1 ?_
  exact And.intro rfl (And.intro (ok7b rfl) h)
theorem nm3 (h1 : offD v 2 70) (h : R 0 (.str "length") [.int 3, d, v, a]) : sp__law_named [.int 3, d, v, a] R Ed := by
  refine ⟨?_⟩
  refine And.intro rfl (And.intro rfl ?_)
  refine itF (c := eqB (.int 3) (.int 0)) rfl ?_
  refine And.intro rfl (And.intro rfl ?_)
  refine itF (c := eqB (.int 3) (.int 1)) rfl ?_
  refine And.intro rfl (And.intro rfl ?_)
  refine itF (c := eqB (.int 3) (.int 2)) rfl ?_
  refine s_fits_num h1 ?_
  exact And.intro rfl (And.intro (ok7b rfl) h)
theorem nms (hd : Txt xs d) (hl : ∀ x ∈ xs, Let x) (h60 : xs.length ≤ 60) (hL : 2 ≤ L) (hL2 : L ≤ 70) (h1 : offD a 1 (xs.length + 1)) (h : R 0 (.str "sign") [.int 1, d, .int L, a]) : sp__law_named [.int 1, d, .int L, a] R Ed := by
  refine ⟨?_⟩
  refine And.intro rfl (And.intro rfl ?_)
  refine itF (c := eqB (.int 1) (.int 0)) rfl ?_
  refine And.intro rfl (And.intro rfl ?_)
  refine itT (c := eqB (.int 1) (.int 1)) rfl ?_
  refine wof_sign hd hl h60 hL hL2 h1 ?_
  exact And.intro rfl (And.intro (ok7b rfl) h)
theorem nmb (hd : Txt xs d) (hl : ∀ x ∈ xs, Let x) (h60 : xs.length ≤ 60) (hL : 2 ≤ L) (hL2 : L ≤ 70) (h1 : offD a 0 (xs.length + 1)) (h : R 0 (.str "behind") [.int 2, d, .int L, a]) : sp__law_named [.int 2, d, .int L, a] R Ed := by
  refine ⟨?_⟩
  refine And.intro rfl (And.intro rfl ?_)
  refine itF (c := eqB (.int 2) (.int 0)) rfl ?_
  refine And.intro rfl (And.intro rfl ?_)
  refine itF (c := eqB (.int 2) (.int 1)) rfl ?_
  refine And.intro rfl (And.intro rfl ?_)
  refine itT (c := eqB (.int 2) (.int 2)) rfl ?_
  refine nb_behind hd hl h60 hL hL2 h1 ?_
  exact And.intro rfl (And.intro (ok7b rfl) h)
end
end LK

set_option Elab.async false
set_option linter.all false
set_option maxRecDepth 100000
set_option maxHeartbeats 400000
/-! the draws -/
namespace LK
open Z
/-- draws: small ints, not too many -/
def Dr (xs : List Int) : Prop := (∀ x ∈ xs, 0 ≤ x) ∧ xs.length ≤ 4000
theorem mod_of {n m : Int} (hm : 0 < m) {k : Nat → D → Prop} (hk : k 0 (.int (n % m))) : modD (.int n) (.int m) k := ⟨hm, hk⟩
theorem s_take {xs : List Int} {m : Int} {R Ed} (hx : Dr xs) (hm : 0 < m) (h : ∀ r ys, 0 ≤ r → r < m → Dr ys → R 0 (.int r) [li ys, .int m]) : sp__law_take [li xs, .int m] R Ed := by
  refine ⟨?_⟩
  refine And.intro rfl (And.intro rfl ?_)
  by_cases e : xs = []
  · subst e
    refine itT (c := eqB (.int ((([] : List Int).map D.int).length : Nat)) (.int 0)) rfl ?_
    refine And.intro rfl ?_
    exact h 0 [] (by omega) hm hx
  · have hl : 0 < xs.length := List.length_pos_iff.mpr e
    refine itF (c := eqB (.int ((xs.map D.int).length : Nat)) (.int 0)) (by rw [eqB_int, List.length_map]; exact decide_eq_false (by omega)) ?_
    have eg : (xs.map D.int)[(xs.map D.int).length - 1]? = some (.int (xs.getLast e)) := by
      rw [← List.getLast?_eq_getElem?, List.getLast?_map, List.getLast?_eq_some_getLast e]; rfl
    refine Exists.intro _ (And.intro eg ?_)
    refine And.intro hm ?_
    refine And.intro rfl ?_
    have ed : (xs.map D.int).dropLast = xs.dropLast.map .int := by rw [List.map_dropLast]
    have q := h (xs.getLast e % m) xs.dropLast (Int.emod_nonneg _ (by omega)) (Int.emod_lt_of_pos _ hm) ⟨fun x hx' => hx.1 x ((List.dropLast_sublist xs).subset hx'), by rw [List.length_dropLast]; have := hx.2; omega⟩
    exact (show R 0 (.int (xs.getLast e % m)) [.lst (xs.map D.int).dropLast, .int m] by rw [ed]; exact q)
theorem sg_get' {ss : List Int} {b : Nat} {i : Int} (hi : i = b) (h : b < ss.length) : L2.atI (ss.map D.int) i = some (.int (ss[b]?.getD 0)) := by
  subst hi
  rw [Z.atI_map, Z.atI_nat _ (by omega) (by omega)]
  rw [List.getElem?_eq_getElem h]; rfl
theorem s_draws {ns : List Int} {R Ed} (hn : ns.length ≤ 63) (h : ∀ ys, Dr ys → R 1 (li ys) [.scr (ns.map .int)]) : sp__law_draws [.scr (ns.map .int)] R Ed := by
  refine ⟨?_⟩
  refine And.intro (by decide) ?_
  have em : (if (63 : Int) < ((ns.map D.int).length : Nat) then (63 : Int) else ((ns.map D.int).length : Nat)) = (ns.length : Nat) := by
    rw [List.length_map, if_neg (by omega)]
  refine And.intro (by rw [em]; exact small_nat (by omega)) ?_
  rw [rngL0 (n := ns.length) em]
  refine forL_inv (fun items ρ => (∀ x ∈ items, ∃ b : Nat, x = .int b ∧ b < ns.length) ∧ ∃ acc s2 s3 s4, (∀ x ∈ acc, (0 : Int) ≤ x) ∧ acc.length + 48 * items.length ≤ 3024 ∧ ρ = [some (0, .scr (ns.map .int)), some (1, li acc), s2, s3, s4]) ⟨?_, [], none, none, none, (fun _ z => nomatch z), ?_, rfl⟩ ?_ ?_
  · intro x hx
    obtain ⟨b, hb, rfl⟩ := List.mem_map.mp hx
    exact ⟨b, rfl, List.mem_range.mp hb⟩
  · rw [List.length_map, List.length_range]; show 0 + 48 * ns.length ≤ 3024; omega
  · rintro ρ ⟨-, acc, s2, s3, s4, h1, h2, rfl⟩
    have er : (acc.map D.int).reverse = acc.reverse.map .int := by rw [List.map_reverse]
    have q := h acc.reverse ⟨fun x hx => h1 x (List.mem_reverse.mp hx), by rw [List.length_reverse]; simp at h2; omega⟩
    exact (show R 1 (.lst (acc.map D.int).reverse) [.scr (ns.map .int)] by rw [er]; exact q)
  · rintro x xs2 ρ K ⟨hx, acc, s2, s3, s4, h1, h2, rfl⟩ hk
    obtain ⟨b, rfl, hb⟩ := hx x List.mem_cons_self
    rw [List.length_cons] at h2
    refine Exists.intro _ (And.intro (sg_get' (b := b) rfl hb) ?_)
    have inner : ∀ c : Int, (wFor (.nm 4) (wIR1 (w1 (wC (.int 48)))) (wIfS (wB (wS (on2V gtD) (w2 (wV 3) (wC (.int 0))))) (wSeq (wExpr (wMt 1 appD (w1 (wE (on2 modD) (w2 (wS (on1V int1D) (w1 (wV 3))) (wC (.int 16))))))) (wAsg (.nm 3) (wE (on2 divD) (w2 (wV 3) (wC (.int 16)))))) (wNext))) { (defEnds [0] [.scr (ns.map .int)] R Ed) with nx := K, ct := K, bk := fun _ => False } [some (0, .scr (ns.map .int)), some (1, li acc), some (0, .int b), some (0, .int c), s4] := by
      intro c
      refine And.intro (small_n (by omega) (by omega)) ?_
      refine forL_inv (fun items ρ => ∃ acc s4 c, (∀ x ∈ acc, (0 : Int) ≤ x) ∧ acc.length + items.length + 48 * xs2.length ≤ 3024 ∧ ρ = [some (0, .scr (ns.map .int)), some (1, li acc), some (0, .int b), some (0, .int c), s4]) ⟨acc, s4, c, h1, ?_, rfl⟩ ?_ ?_
      · rw [rngL_len]
        have e48 : (48 : Int).toNat = 48 := rfl
        rw [e48]; omega
      · rintro ρ ⟨acc, s4, c, h1, h2, rfl⟩
        exact hk _ ⟨fun y hy => hx y (List.mem_cons_of_mem _ hy), acc, some (0, .int b), some (0, .int c), s4, h1, by simp at h2; omega, rfl⟩
      · rintro y ys ρ K2 ⟨acc, s4, c, h1, h2, rfl⟩ hk2
        rw [List.length_cons] at h2
        by_cases e : 0 < c
        · refine itT (c := decide ((0 : Int) < c)) (decide_eq_true e) ?_
          refine And.intro (by show (0 : Int) < 16; decide) ?_
          refine And.intro (by rw [List.length_map]; show acc.length < 1000000; omega) ?_
          refine And.intro ?_ ?_
          · show L2.CDiv c 16
            exact ⟨by decide, by decide⟩
          · refine hk2 _ ⟨acc ++ [c % 16], some (0, y), c / 16, ?_, ?_, ?_⟩
            · intro x hx
              rcases List.mem_append.mp hx with z | z
              · exact h1 x z
              · rw [List.mem_singleton.mp z]; exact Int.emod_nonneg _ (by omega)
            · rw [List.length_append]; show acc.length + 1 + ys.length + _ ≤ 3024; omega
            · have em2 : li (acc ++ [c % 16]) = .lst (acc.map D.int ++ [.int (c % 16)]) := by simp [li]
              rw [em2]; rfl
        · refine itF (c := decide ((0 : Int) < c)) (decide_eq_false e) ?_
          exact hk2 _ ⟨acc, some (0, y), c, h1, by omega, rfl⟩
    by_cases e : ns[b]?.getD 0 < 0
    · refine itT (c := decide (ns[b]?.getD 0 < 0)) (decide_eq_true e) ?_
      refine And.intro trivial ?_
      exact inner (1 - ns[b]?.getD 0)
    · refine itF (c := decide (ns[b]?.getD 0 < 0)) (decide_eq_false e) ?_
      exact inner (ns[b]?.getD 0)
end LK

set_option Elab.async false
set_option linter.all false
set_option maxRecDepth 100000
set_option maxHeartbeats 400000
namespace LK
open Z
abbrev Nb (n : Int) (x : Int) : Prop := 0 ≤ x ∧ x < n
theorem s_chain {m : Int} {R Ed} (hm : m = 2 ∨ m = 3 ∨ m = 4) (h : ∀ ys, (∀ y ∈ ys, Nb 4 y) → ys.length ≤ 8 → R 1 (li ys) [.int m]) : sp__law_chain [.int m] R Ed := by
  rcases hm with rfl | rfl | rfl
  · have q := h [0, 1, 0, 1] (by decide) (by decide)
    refine ⟨?_⟩
    repeat (first | exact q | refine And.intro (by decide) ?_ | refine And.intro (small_n (by decide) (by decide)) ?_)
  · have q := h [0, 1, 0, 2, 1, 2] (by decide) (by decide)
    refine ⟨?_⟩
    repeat (first | exact q | refine And.intro (by decide) ?_ | refine And.intro (small_n (by decide) (by decide)) ?_)
  · have q := h [0, 1, 0, 2, 1, 3, 2, 3] (by decide) (by decide)
    refine ⟨?_⟩
    repeat (first | exact q | refine And.intro (by decide) ?_ | refine And.intro (small_n (by decide) (by decide)) ?_)
end LK

set_option Elab.async false
set_option linter.all false
set_option maxRecDepth 100000
set_option maxHeartbeats 400000
namespace LK
open Z
theorem s_parted {xs : List Int} {m : Nat} {i : Int} {R Ed} (hi : i = m) (hx : ∀ x ∈ xs, Nb 24 x) (hm : m + xs.length ≤ 24) (h : ∀ ys, (∀ y ∈ ys, Nb 24 y) → ys.length ≤ 48 → R 1 (li ys) [li xs, .int i]) : sp__law_parted [li xs, .int i] R Ed := by
  subst hi
  refine ⟨?_⟩
  refine And.intro (by decide) ?_
  refine And.intro (small_nat (by rw [List.length_map]; omega)) ?_
  rw [rngL0 (n := xs.length) (by rw [List.length_map])]
  refine forL_inv (fun items ρ => (∀ x ∈ items, ∃ b : Nat, x = .int b ∧ b < xs.length) ∧ ∃ acc s3, (∀ y ∈ acc, Nb 24 y) ∧ acc.length + 2 * items.length ≤ 48 ∧ ρ = [some (0, li xs), some (0, .int m), some (1, li acc), s3]) ⟨?_, [], none, (fun _ z => nomatch z), ?_, rfl⟩ ?_ ?_
  · intro x hx
    obtain ⟨b, hb, rfl⟩ := List.mem_map.mp hx
    exact ⟨b, rfl, List.mem_range.mp hb⟩
  · rw [List.length_map, List.length_range]; show 0 + 2 * xs.length ≤ 48; omega
  · rintro ρ ⟨-, acc, s3, h1, h2, rfl⟩
    exact h acc h1 (by simp at h2; omega)
  · rintro x xs2 ρ K ⟨hy, acc, s3, h1, h2, rfl⟩ hk
    obtain ⟨b, rfl, hb⟩ := hy x List.mem_cons_self
    rw [List.length_cons] at h2
    have hg : Nb 24 (xs[b]?.getD 0) := by
      rw [List.getElem?_eq_getElem hb]
      exact hx _ (List.getElem_mem hb)
    refine Exists.intro _ (And.intro (sg_get' (b := b) rfl hb) ?_)
    refine And.intro (by show 2 ≤ 1000; decide) ?_
    refine And.intro (by rw [List.length_map]; show acc.length + 2 ≤ 1000000; omega) ?_
    refine hk _ ⟨fun y hz => hy y (List.mem_cons_of_mem _ hz), acc ++ [xs[b]?.getD 0, (m : Int) + b], some (0, .int b), ?_, ?_, ?_⟩
    · intro y hz
      rcases List.mem_append.mp hz with z | z
      · exact h1 y z
      · rcases List.mem_cons.mp z with rfl | z
        · exact hg
        · rw [List.mem_singleton.mp z]; exact ⟨by omega, by omega⟩
    · rw [List.length_append]; show acc.length + 2 + 2 * xs2.length ≤ 48; omega
    · have em2 : li (acc ++ [xs[b]?.getD 0, (m : Int) + b]) = .lst (acc.map D.int ++ [.int (xs[b]?.getD 0), .int ((m : Int) + b)]) := by simp [li]
      rw [em2]; rfl
theorem s_closed {w m : Int} {R Ed} (hw : w = 0 ∨ w = 1 ∨ w = 2 ∨ w = 3) (hm : m = 2 ∨ m = 3 ∨ m = 4) (h : ∀ ys, (∀ y ∈ ys, Nb 24 y) → ys.length ≤ 48 → R 1 (li ys) [.int w, .int m]) : sp__law_closed [.int w, .int m] R Ed := by
  refine ⟨?_⟩
  obtain ⟨mn, hmn⟩ : ∃ mn : Nat, m = mn ∧ mn ≤ 4 := by
    rcases hm with rfl | rfl | rfl
    · exact ⟨2, rfl, by decide⟩
    · exact ⟨3, rfl, by decide⟩
    · exact ⟨4, rfl, by decide⟩
  refine And.intro ⟨by decide, by decide, by omega, by omega⟩ ?_
  rcases hw with rfl | rfl | rfl | rfl
  · refine And.intro rfl (And.intro rfl ?_)
    refine itT (c := eqB (.int 0) (.int 0)) rfl ?_
    refine s_chain hm fun ys h1 h2 => ?_
    exact s_parted (m := mn) hmn.1 (fun x hx => ⟨(h1 x hx).1, by have := (h1 x hx).2; omega⟩) (by omega) h
  · refine And.intro rfl (And.intro rfl ?_)
    refine itF (c := eqB (.int 1) (.int 0)) rfl ?_
    refine And.intro rfl (And.intro rfl ?_)
    refine itT (c := eqB (.int 1) (.int 1)) rfl ?_
    rcases hm with rfl | rfl | rfl
    · refine And.intro (by decide) ?_
      exact s_parted (xs := [0, 1, 0, 1]) (m := 2) rfl (by decide) (by decide) h
    · refine And.intro (by decide) ?_
      exact s_parted (xs := [0, 1, 2, 0, 1, 2]) (m := 3) rfl (by decide) (by decide) h
    · refine And.intro (by decide) ?_
      exact s_parted (xs := [0, 1, 2, 3, 0, 1, 2, 3]) (m := 4) rfl (by decide) (by decide) h
  · refine And.intro rfl (And.intro rfl ?_)
    refine itF (c := eqB (.int 2) (.int 0)) rfl ?_
    refine And.intro rfl (And.intro rfl ?_)
    refine itF (c := eqB (.int 2) (.int 1)) rfl ?_
    refine And.intro rfl (And.intro rfl ?_)
    refine itT (c := eqB (.int 2) (.int 2)) rfl ?_
    refine And.intro (by decide) ?_
    rcases hm with rfl | rfl | rfl
    · refine And.intro ⟨by decide, by decide⟩ (And.intro (small_n (by decide) (by decide)) ?_)
      repeat (first | exact s_parted (xs := [0, 1, 0, 1]) (m := 2) rfl (by decide) (by decide) h | refine And.intro (by decide) ?_ | refine And.intro (Or.inl ⟨by decide, by decide⟩) ?_)
    · refine And.intro ⟨by decide, by decide⟩ (And.intro (small_n (by decide) (by decide)) ?_)
      repeat (first | exact s_parted (xs := [0, 1, 0, 1]) (m := 3) rfl (by decide) (by decide) h | refine And.intro (by decide) ?_ | refine And.intro (Or.inl ⟨by decide, by decide⟩) ?_)
    · refine And.intro ⟨by decide, by decide⟩ (And.intro (small_n (by decide) (by decide)) ?_)
      repeat (first | exact s_parted (xs := [0, 1, 0, 1, 2, 3, 2, 3]) (m := 4) rfl (by decide) (by decide) h | refine And.intro (by decide) ?_ | refine And.intro (Or.inl ⟨by decide, by decide⟩) ?_)
  · refine And.intro rfl (And.intro rfl ?_)
    refine itF (c := eqB (.int 3) (.int 0)) rfl ?_
    refine And.intro rfl (And.intro rfl ?_)
    refine itF (c := eqB (.int 3) (.int 1)) rfl ?_
    refine And.intro rfl (And.intro rfl ?_)
    refine itF (c := eqB (.int 3) (.int 2)) rfl ?_
    rcases hm with rfl | rfl | rfl
    · refine And.intro (small_n (by decide) (by decide)) ?_
      repeat (first | exact s_parted (xs := [0, 0, 0]) (m := 2) rfl (by decide) (by decide) h | refine And.intro (by decide) ?_)
    · refine And.intro (small_n (by decide) (by decide)) ?_
      repeat (first | exact s_parted (xs := [0, 0, 0, 0]) (m := 3) rfl (by decide) (by decide) h | refine And.intro (by decide) ?_)
    · refine And.intro (small_n (by decide) (by decide)) ?_
      repeat (first | exact s_parted (xs := [0, 0, 0, 0, 0]) (m := 4) rfl (by decide) (by decide) h | refine And.intro (by decide) ?_)
end LK

set_option Elab.async false
set_option linter.all false
set_option maxRecDepth 100000
set_option maxHeartbeats 400000
namespace LK
open Z
def lfun (f : Int → Int) : D → D | .int b => .int (f b) | _ => .non
/-- signs of a text -/
def Lt (ys : List Int) : Prop := ∀ y ∈ ys, Nb 100 y
theorem two64 : (2 : Int) ^ 64 = 18446744073709551616 := by decide
theorem cmulL {i j : Int} (h : -1000 ≤ i) (h2 : i ≤ 1000) : L2.CMul i j := by
  refine Or.inl ⟨?_, ?_⟩ <;> rw [two64] <;> omega
theorem s_letters {xs : List Int} {n : Nat} {R Ed} (hx : Dr xs) (hn : n ≤ 100) (h : ∀ ys zs, Dr zs → Lt ys → ys.length = n → R 1 (li ys) [li zs, .int n]) : sp__law_letters [li xs, .int n] R Ed := by
  refine ⟨?_⟩
  refine And.intro (Nat.le_refl 1) ?_
  refine s_take (m := 16) hx (by decide) fun r1 z1 a1 b1 d1 => ?_
  refine And.intro (cmulL (by decide) (by decide)) ?_
  have body : ∀ sp : Int, 0 ≤ sp → sp ≤ 40 → (wSeq (wAsg (.nm 3) (wE (on2 addD) (w2 (wE (on2 mulD) (w2 (wCall [1, 0] sp__law_take (w2 (wV 0) (wC (.int 16)))) (wC (.int 6)))) (wCall [1, 0] sp__law_take (w2 (wV 0) (wC (.int 10))))))) (wRet (wLc (.nm 4) [4] (wIR1 (w1 (wV 1))) (wYes) (wE (on2 modD) (w2 (wS (on1V int1D) (w1 (wE (on2 addD) (w2 (wV 3) (wE (on2 mulD) (w2 (wV 2) (wV 4))))))) (wC (.int 100))))))) (defEnds [1, 0] [li xs, .int n] R Ed) [some (1, li z1), some (0, .int n), some (0, .int sp), none, none] := by
    intro sp h0 h1
    refine And.intro (Nat.le_refl 1) ?_
    refine s_take (m := 16) d1 (by decide) fun r2 z2 a2 b2 d2 => ?_
    refine And.intro (cmulL (by omega) (by omega)) ?_
    refine And.intro (Nat.le_refl 1) ?_
    refine s_take (m := 10) d2 (by decide) fun r3 z3 a3 b3 d3 => ?_
    refine And.intro (small_nat (by omega)) ?_
    rw [rngL0 (n := n) rfl]
    refine lcL_map (lfun fun b => (r2 * 6 + r3 + sp * b) % 100) (fun d => ∃ b : Nat, d = .int b) ?_ ?_ ?_ ?_
    · rintro x acc K ⟨b, rfl⟩ hz hk
      refine And.intro (cmulL (by omega) (by omega)) ?_
      refine And.intro (by show (0 : Int) < 100; decide) ?_
      exact And.intro hz hk
    · intro x hx
      obtain ⟨b, _, rfl⟩ := List.mem_map.mp hx
      exact ⟨b, rfl⟩
    · rw [List.length_map, List.length_range]; show 0 + n ≤ 1000000; omega
    · have e : ((List.range n).map fun b : Nat => D.int (b : Int)).map (lfun fun b => (r2 * 6 + r3 + sp * b) % 100) = ((List.range n).map fun b : Nat => (r2 * 6 + r3 + sp * b) % 100).map .int := by
        rw [List.map_map, List.map_map]; rfl
      have q := h ((List.range n).map fun b : Nat => (r2 * 6 + r3 + sp * b) % 100) z3 d3 (fun y hy => by
        obtain ⟨b, _, rfl⟩ := List.mem_map.mp hy
        exact ⟨Int.emod_nonneg _ (by decide), Int.emod_lt_of_pos _ (by decide)⟩) (by rw [List.length_map, List.length_range])
      have q2 : R 1 (.lst ([] ++ ((List.range n).map fun b : Nat => D.int (b : Int)).map (lfun fun b => (r2 * 6 + r3 + sp * b) % 100))) [li z3, .int n] := by rw [List.nil_append, e]; exact q
      exact And.intro rfl q2
  refine And.intro (by show (0 : Int) < 5; decide) ?_
  refine And.intro rfl (And.intro rfl ?_)
  by_cases e : (1 + 2 * r1) % 5 = 0
  · refine itT (c := eqB (.int ((1 + 2 * r1) % 5)) (.int 0)) (by rw [eqB_int]; exact decide_eq_true e) ?_
    exact body (1 + 2 * r1 + 2) (by omega) (by omega)
  · refine itF (c := eqB (.int ((1 + 2 * r1) % 5)) (.int 0)) (by rw [eqB_int]; exact decide_eq_false e) ?_
    exact body (1 + 2 * r1) (by omega) (by omega)
theorem s_row {xs ps : List Int} {m : Nat} {R Ed} (hx : Dr xs) (hp : Lt ps) (h0 : ps ≠ []) (hps : ps.length ≤ 1000) (hm : m ≤ 100) (h : ∀ ys zs, Dr zs → Lt ys → ys.length ≤ m → R 1 (li ys) [li zs, li ps, .int m]) : sp__law_row [li xs, li ps, .int m] R Ed := by
  refine ⟨?_⟩
  have hl : 0 < ps.length := List.length_pos_iff.mpr h0
  refine And.intro (Nat.le_refl 1) ?_
  refine s_take hx (by show (0 : Int) < (m : Int) + 1; omega) fun r1 z1 a1 b1 d1 => ?_
  obtain ⟨n, rfl⟩ := Int.eq_ofNat_of_zero_le a1
  have hn : n ≤ m := by omega
  refine And.intro (small_nat (by omega)) ?_
  rw [rngL0 (n := n) rfl]
  refine lcL_inv (fun items acc ρ => ∃ zs ys, Dr zs ∧ acc = ys.map .int ∧ Lt ys ∧ ys.length + items.length ≤ m ∧ ρ = [some (1, li zs), some (0, li ps), some (0, .int m), none]) ⟨z1, [], d1, rfl, (fun _ z => nomatch z), ?_, rfl⟩ ?_ ?_
  · rw [List.length_map, List.length_range]; show 0 + n ≤ m; omega
  · rintro acc ρ ⟨zs, ys, h1, rfl, h2, h3, rfl⟩
    exact And.intro rfl (h ys zs h1 h2 (by simpa using h3))
  · rintro x xs2 acc ρ K ⟨zs, ys, h1, rfl, h2, h3, rfl⟩ hk
    rw [List.length_cons] at h3
    refine And.intro (Nat.le_refl 1) ?_
    refine s_take h1 (by rw [List.length_map]; omega) fun r2 z2 a2 b2 d2 => ?_
    obtain ⟨k, rfl⟩ := Int.eq_ofNat_of_zero_le a2
    rw [List.length_map] at b2
    have hk' : k < ps.length := by omega
    refine Exists.intro _ (And.intro (sg_get' (b := k) rfl hk') ?_)
    refine And.intro (by rw [List.length_map]; show ys.length < 1000000; omega) ?_
    refine hk _ _ ⟨z2, ys ++ [ps[k]?.getD 0], d2, by simp, ?_, ?_, rfl⟩
    · intro y hy
      rcases List.mem_append.mp hy with z | z
      · exact h2 y z
      · rw [List.mem_singleton.mp z, List.getElem?_eq_getElem hk']
        exact hp _ (List.getElem_mem hk')
    · rw [List.length_append]; show ys.length + 1 + xs2.length ≤ m; omega
end LK

set_option Elab.async false
set_option linter.all false
set_option maxRecDepth 100000
set_option maxHeartbeats 800000
namespace LK
open Z
/-- signs as data -/
def Ld (n : Nat) (ds : List D) : Prop := ∃ ys : List Int, ds = ys.map .int ∧ Lt ys ∧ ys.length ≤ n
theorem Ld.app {a b : Nat} {x y : List D} (h : Ld a x) (h2 : Ld b y) : Ld (a + b) (x ++ y) := by
  obtain ⟨u, rfl, hu, lu⟩ := h
  obtain ⟨v, rfl, hv, lv⟩ := h2
  exact ⟨u ++ v, by simp, fun z hz => (List.mem_append.mp hz).elim (hu z) (hv z), by rw [List.length_append]; omega⟩
theorem Ld.one {v : Int} (h : Nb 100 v) : Ld 1 [.int v] := ⟨[v], rfl, fun z hz => by rw [List.mem_singleton.mp hz]; exact h, Nat.le_refl _⟩
theorem Ld.nil : Ld 0 [] := ⟨[], rfl, (fun _ z => nomatch z), Nat.le_refl _⟩
theorem Ld.up {a b : Nat} {x : List D} (h : Ld a x) (l : a ≤ b) : Ld b x := by
  obtain ⟨u, e, hu, lu⟩ := h
  exact ⟨u, e, hu, by omega⟩
theorem Ld.rep {a : Nat} {x : List D} (h : Ld a x) : ∀ k : Nat, Ld (k * a) (List.replicate k x).flatten
  | 0 => Ld.nil.up (by omega)
  | k + 1 => by
    rw [List.replicate_succ, List.flatten_cons]
    exact (h.app (Ld.rep h k)).up (by rw [Nat.succ_mul]; omega)
theorem Ld.sub {a : Nat} {x y : List D} (h : Ld a x) (s : y.Sublist x) : Ld a y := by
  obtain ⟨u, rfl, hu, lu⟩ := h
  obtain ⟨v, sv, rfl⟩ := List.sublist_map_iff.mp s
  exact ⟨v, rfl, fun z hz => hu z (sv.subset hz), Nat.le_trans sv.length_le lu⟩
theorem Ld.cut {a : Nat} {x : List D} (h : Ld a x) (lo hi : Option Int) : Ld a (Z.cut x lo hi) := h.sub ((List.take_sublist _ _).trans (List.drop_sublist _ _))
theorem Ld.len {a : Nat} {x : List D} (h : Ld a x) : x.length ≤ a := by
  obtain ⟨u, rfl, hu, lu⟩ := h
  rw [List.length_map]; exact lu
theorem Ld.of {ys : List Int} {n : Nat} (h : Lt ys) (l : ys.length ≤ n) : Ld n (ys.map .int) := ⟨ys, rfl, h, l⟩
theorem Ld.map {n : Nat} {f : D → D} {items : List D} {a : Nat} (hl : items.length ≤ n) (hf : ∀ x ∈ items, ∃ v, f x = .int v ∧ Nb 100 v) : Ld n (items.map f) := by
  induction items generalizing n with
  | nil => exact Ld.nil.up (by omega)
  | cons x xs ih =>
    rw [List.length_cons] at hl
    obtain ⟨v, e, hv⟩ := hf x List.mem_cons_self
    rw [List.map_cons, e]
    exact ((Ld.one hv).app (ih (n := n - 1) (by omega) fun y hy => hf y (List.mem_cons_of_mem _ hy))).up (by omega)
/-- a pool's sign -/
theorem pool_0 {ps : List Int} (hp : Lt ps) (h0 : ps ≠ []) : ∃ v, L2.atI (ps.map D.int) 0 = some (.int v) ∧ Nb 100 v := by
  cases ps with
  | nil => exact absurd rfl h0
  | cons p ps =>
    refine ⟨p, ?_, hp p List.mem_cons_self⟩
    rw [Z.atI_map, Z.atI_nat _ (by decide) (by rw [List.length_cons]; omega)]; rfl
theorem pool_z {ps : List Int} (hp : Lt ps) (h0 : ps ≠ []) : ∃ v, L2.atI (ps.map D.int) (-1) = some (.int v) ∧ Nb 100 v := by
  refine ⟨ps.getLast h0, ?_, hp _ (List.getLast_mem h0)⟩
  rw [Z.atI_map, Z.atI_last ps h0]; rfl
section
variable {xs ps : List Int} {L : Nat} {R : Nat → D → List D → Prop} {Ed : Exn → List D → Prop}
theorem made1 (hx : Dr xs) (hL : 2 ≤ L) (hL7 : L ≤ 7) (hp : Lt ps) (h0 : ps ≠ []) (hps : ps.length ≤ 4) (h : ∀ ds zs, Dr zs → Ld 200 ds → R 1 (.lst ds) [li zs, .int 1, .int L, li ps]) : sp__law_made [li xs, .int 1, .int L, li ps] R Ed := by
  obtain ⟨v, ev, hv⟩ := pool_0 hp h0
  obtain ⟨z, ez, hz⟩ := pool_z hp h0
  refine ⟨?_⟩
  refine And.intro rfl (And.intro rfl ?_)
  refine itT (c := eqB (.int 1) (.int 1)) rfl ?_
  refine And.intro (Nat.le_refl 1) ?_
  refine s_take (m := 4) hx (by decide) fun r1 z1 a1 b1 d1 => ?_
  refine And.intro (small_n (by omega) (by omega)) ?_
  refine lcL_map (fun _ => .int v) (fun _ => True) ?_ (fun _ _ => trivial) (by rw [rngL_len]; show 0 + (1 + r1).toNat ≤ 1000000; omega) ?_
  · intro x acc K _ hz hk
    exact Exists.intro _ (And.intro ev (And.intro hz hk))
  have l1 : Ld 10 ([] ++ (rngL 0 (1 + r1).toNat).map fun _ => D.int v) := (Ld.map (a := 0) (by rw [rngL_len]; omega) fun _ _ => ⟨v, rfl, hv⟩)
  refine Exists.intro _ (And.intro ez ?_)
  refine And.intro (by show 1 ≤ 1000; decide) ?_
  refine And.intro (Nat.le_trans (Nat.add_le_add l1.len (Nat.le_refl 1)) (by decide)) ?_
  have l2 := l1.app (Ld.one hz)
  refine And.intro (Nat.le_refl 1) ?_
  refine s_take (m := 5) d1 (by decide) fun r2 z2 a2 b2 d2 => ?_
  refine And.intro (small_n (by omega) (by omega)) ?_
  refine lcL_map (fun _ => .int v) (fun _ => True) ?_ (fun _ _ => trivial) (by rw [rngL_len]; show 0 + r2.toNat ≤ 1000000; omega) ?_
  · intro x acc K _ hz hk
    exact Exists.intro _ (And.intro ev (And.intro hz hk))
  have l3 : Ld 10 ([] ++ (rngL 0 r2.toNat).map fun _ => D.int v) := (Ld.map (a := 0) (by rw [rngL_len]; omega) fun _ _ => ⟨v, rfl, hv⟩)
  refine And.intro (Nat.le_trans (Nat.add_le_add l2.len l3.len) (by decide)) ?_
  exact And.intro rfl (h _ z2 d2 ((l2.app l3).up (by decide)))
end
end LK

set_option Elab.async false
set_option linter.all false
set_option maxRecDepth 100000
set_option maxHeartbeats 100000
namespace LK
open Z
theorem mul_l (a : List D) (j : Int) {C : Prop} (ha : a.length ≤ 100) (h0 : 0 ≤ j) (h1 : j ≤ 100) (hk : C) : j ≤ big ∧ -big ≤ j ∧ a.length * j.toNat ≤ big ∧ C :=
  ⟨by show j ≤ 1000000; omega, by show -1000000 ≤ j; omega, by
    have q : a.length * j.toNat ≤ 100 * 100 := Nat.mul_le_mul ha (by omega)
    show a.length * j.toNat ≤ 1000000
    omega, hk⟩
theorem Ld.len2 {a : Nat} {x y : List D} (h : Ld a (x ++ y)) : x.length + y.length ≤ a := by
  rw [← List.length_append]; exact h.len
section
variable {xs ps : List Int} {L : Nat} {R : Nat → D → List D → Prop} {Ed : Exn → List D → Prop}
theorem made2 (hx : Dr xs) (hL : 2 ≤ L) (hL7 : L ≤ 7) (hp : Lt ps) (h0 : ps ≠ []) (hps : ps.length ≤ 4) (h : ∀ ds zs, Dr zs → Ld 200 ds → R 1 (.lst ds) [li zs, .int 2, .int L, li ps]) : sp__law_made [li xs, .int 2, .int L, li ps] R Ed := by
  obtain ⟨v, ev, hv⟩ := pool_0 hp h0
  refine ⟨?_⟩
  refine And.intro rfl (And.intro rfl ?_)
  refine itF (c := eqB (.int 2) (.int 1)) rfl ?_
  refine And.intro rfl (And.intro rfl ?_)
  refine itT (c := eqB (.int 2) (.int 2)) rfl ?_
  have body : ∀ (z3 : List Int) (ds : List D), Dr z3 → Ld 15 ds → (wRet (wE (on2 addD) (w2 (wE (on2 addD) (w2 (wCall [1, 0, 0] sp__law_row (wCons (wV 0) (wCons (wV 3) (wCons (wC (.int 1)) (wNil))))) (wV 5))) (wCall [1, 0, 0] sp__law_row (wCons (wV 0) (wCons (wV 3) (wCons (wC (.int 1)) (wNil)))))))) (defEnds [1, 0, 0, 0] [li xs, .int 2, .int L, li ps] R Ed) [some (1, li z3), some (0, .int 2), some (0, .int L), some (0, li ps), none, some (1, .lst ds), none, none, none, none, none, none, none, none, none] := by
    intro z3 ds d3 l5
    refine And.intro (Nat.le_refl 1) ?_
    refine s_row (m := 1) d3 hp h0 (by omega) (by decide) fun y4 z4 d4 e4 f4 => ?_
    have l6 := Ld.of e4 f4
    refine And.intro (Nat.le_trans (Nat.add_le_add l6.len l5.len) (by decide)) ?_
    have l7 := l6.app l5
    refine And.intro (Nat.le_refl 1) ?_
    refine s_row (m := 1) d4 hp h0 (by omega) (by decide) fun y5 z5 d5 e5 f5 => ?_
    have l8 := Ld.of e5 f5
    refine And.intro (Nat.le_trans (Nat.add_le_add l7.len l8.len) (by decide)) ?_
    exact And.intro rfl (h _ z5 d5 ((l7.app l8).up (by decide)))
  refine And.intro (Nat.le_refl 1) ?_
  refine s_row (m := 2) hx hp h0 (by omega) (by decide) fun y1 z1 d1 e1 f1 => ?_
  have l1 := Ld.of e1 f1
  refine Exists.intro _ (And.intro ev ?_)
  refine And.intro (by show 1 ≤ 1000; decide) ?_
  refine And.intro (Nat.le_trans (Nat.add_le_add l1.len (Nat.le_refl 1)) (by decide)) ?_
  have l2 : Ld 3 (y1.map D.int ++ [D.int v]) := l1.app (Ld.one hv)
  refine And.intro (Nat.le_refl 1) ?_
  refine s_take (m := 3) d1 (by decide) fun r2 z2 a2 b2 d2 => ?_
  refine mul_l (y1.map D.int ++ [D.int v]) (2 + r2) (Nat.le_trans l2.len (by decide)) (by omega) (by omega) ?_
  refine And.intro (Nat.le_refl 1) ?_
  refine s_take (m := 3) d2 (by decide) fun r3 z3 a3 b3 d3 => ?_
  have l3 : Ld 12 (List.replicate (2 + r2).toNat (y1.map D.int ++ [D.int v])).flatten := (l2.rep _).up (by
    have : (2 + r2).toNat ≤ 4 := by omega
    exact Nat.le_trans (Nat.mul_le_mul_right 3 this) (by decide))
  have l4 := l2.cut none (some r3)
  refine And.intro (Nat.le_trans (Nat.add_le_add l3.len l4.len) (by decide)) ?_
  exact body z3 _ d3 (l3.app l4)
end
end LK

set_option Elab.async false
set_option linter.all false
set_option maxRecDepth 100000
set_option maxHeartbeats 100000
namespace LK
open Z
section
variable {xs ps : List Int} {L : Nat} {R : Nat → D → List D → Prop} {Ed : Exn → List D → Prop}
/-- three rows -/
def Rows3 (ds : List D) : Prop := ∃ a b c, ds = [.lst a, .lst b, .lst c] ∧ Ld 2 a ∧ Ld 2 b ∧ Ld 2 c
theorem made3 (hx : Dr xs) (hL : 2 ≤ L) (hL7 : L ≤ 7) (hp : Lt ps) (h0 : ps ≠ []) (hps : ps.length ≤ 4) (h : ∀ ds zs, Dr zs → Ld 200 ds → R 1 (.lst ds) [li zs, .int 3, .int L, li ps]) : sp__law_made [li xs, .int 3, .int L, li ps] R Ed := by
  obtain ⟨v, ev, hv⟩ := pool_0 hp h0
  obtain ⟨u, eu, hu⟩ := pool_z hp h0
  refine ⟨?_⟩
  refine And.intro rfl (And.intro rfl ?_)
  refine itF (c := eqB (.int 3) (.int 1)) rfl ?_
  refine And.intro rfl (And.intro rfl ?_)
  refine itF (c := eqB (.int 3) (.int 2)) rfl ?_
  refine And.intro rfl (And.intro rfl ?_)
  refine itT (c := eqB (.int 3) (.int 3)) rfl ?_
  have body : ∀ (z1 : List Int) (X Y : List D), Dr z1 → Ld 6 X → Ld 6 Y → (wSeq (wAsg (.nm 8) (wLc (.nm 13) [13] (wIR1 (w1 (wC (.int 3)))) (wYes) (wCall [1, 0, 0] sp__law_row (wCons (wV 0) (wCons (wV 3) (wCons (wC (.int 2)) (wNil))))))) (wRet (wE (on2 addD) (w2 (wE (on2 addD) (w2 (wE (on2 addD) (w2 (wE (on2 addD) (w2 (wE (on2 addD) (w2 (wE (on2 addD) (w2 (wE (on2 addD) (w2 (wV 6) (wE (on2 ixD) (w2 (wV 8) (wC (.int 0)))))) (wV 7))) (wE (on2 ixD) (w2 (wV 8) (wC (.int 1)))))) (wV 6))) (wE (on2 ixD) (w2 (wV 8) (wC (.int 2)))))) (wV 7))) (wCall [1, 0, 0] sp__law_row (wCons (wV 0) (wCons (wV 3) (wCons (wC (.int 1)) (wNil))))))))) (defEnds [1, 0, 0, 0] [li xs, .int 3, .int L, li ps] R Ed) [some (1, li z1), some (0, .int 3), some (0, .int L), some (0, li ps), none, none, some (1, .lst X), some (1, .lst Y), none, none, none, none, none, none, none] := by
    intro z1 X Y d1 lx ly
    refine And.intro (small_n (by decide) (by decide)) ?_
    refine lcL_inv (fun items acc ρ => ∃ zs, Dr zs ∧ (∀ x ∈ acc, ∃ a, x = .lst a ∧ Ld 2 a) ∧ acc.length + items.length = 3 ∧ ρ = [some (1, li zs), some (0, .int 3), some (0, .int L), some (0, li ps), none, none, some (1, .lst X), some (1, .lst Y), none, none, none, none, none, none, none]) ⟨z1, d1, (fun _ z => nomatch z), rfl, rfl⟩ ?_ ?_
    · rintro acc ρ ⟨zs, d2, ha, hl, rfl⟩
      obtain ⟨x0, x1, x2, rfl⟩ : ∃ x0 x1 x2, acc = [x0, x1, x2] := by
        match acc, hl with
        | [x0, x1, x2], _ => exact ⟨x0, x1, x2, rfl⟩
      obtain ⟨b0, rfl, l0⟩ := ha x0 (by simp)
      obtain ⟨b1, rfl, l1⟩ := ha x1 (by simp)
      obtain ⟨b2, rfl, l2⟩ := ha x2 (by simp)
      have m1 := lx.app l0
      have m2 := m1.app ly
      have m3 := m2.app l1
      have m4 := m3.app lx
      have m5 := m4.app l2
      have m6 := m5.app ly
      refine Exists.intro _ (And.intro rfl ?_)
      refine And.intro (Nat.le_trans m1.len2 (by decide)) ?_
      refine And.intro (Nat.le_trans m2.len2 (by decide)) ?_
      refine Exists.intro _ (And.intro rfl ?_)
      refine And.intro (Nat.le_trans m3.len2 (by decide)) ?_
      refine And.intro (Nat.le_trans m4.len2 (by decide)) ?_
      refine Exists.intro _ (And.intro rfl ?_)
      refine And.intro (Nat.le_trans m5.len2 (by decide)) ?_
      refine And.intro (Nat.le_trans m6.len2 (by decide)) ?_
      refine And.intro (Nat.le_refl 1) ?_
      refine s_row (m := 1) d2 hp h0 (by omega) (by decide) fun y4 z4 d4 e4 f4 => ?_
      have m7 := m6.app (Ld.of e4 f4)
      refine And.intro (Nat.le_trans m7.len2 (by decide)) ?_
      exact And.intro rfl (h _ z4 d4 (m7.up (by decide)))
    · rintro x xs2 acc ρ K ⟨zs, d2, ha, hl, rfl⟩ hk
      rw [List.length_cons] at hl
      refine And.intro (Nat.le_refl 1) ?_
      refine s_row (m := 2) d2 hp h0 (by omega) (by decide) fun y4 z4 d4 e4 f4 => ?_
      refine And.intro (by show acc.length < 1000000; omega) ?_
      refine hk _ _ ⟨z4, d4, ?_, ?_, rfl⟩
      · intro y hy
        rcases List.mem_append.mp hy with q | q
        · exact ha y q
        · exact ⟨_, List.mem_singleton.mp q, Ld.of e4 f4⟩
      · rw [List.length_append]; show acc.length + 1 + xs2.length = 3; omega
  refine Exists.intro _ (And.intro ev ?_)
  refine And.intro (by show 1 ≤ 1000; decide) ?_
  refine And.intro trivial ?_
  refine mul_l [D.int v] ((L : Int) - 1) (by show 1 ≤ 100; decide) (by omega) (by omega) ?_
  have lx : Ld 6 (List.replicate ((L : Int) - 1).toNat [D.int v]).flatten := ((Ld.one hv).rep _).up (by omega)
  refine Exists.intro _ (And.intro eu ?_)
  refine And.intro (by show 1 ≤ 1000; decide) ?_
  refine And.intro trivial ?_
  refine mul_l [D.int u] ((L : Int) - 2) (by show 1 ≤ 100; decide) (by omega) (by omega) ?_
  have ly0 : Ld 5 (List.replicate ((L : Int) - 2).toNat [D.int u]).flatten := ((Ld.one hu).rep _).up (by omega)
  refine And.intro (Nat.le_refl 1) ?_
  refine s_take (m := 16) hx (by decide) fun r1 z1 a1 b1 d1 => ?_
  refine And.intro (by show 1 ≤ 1000; decide) ?_
  refine And.intro (Nat.le_trans (Nat.add_le_add ly0.len (Nat.le_refl 1)) (by decide)) ?_
  have ly := ly0.app (Ld.one (v := r1) ⟨a1, by omega⟩)
  exact body z1 _ _ d1 lx ly
end
end LK

set_option Elab.async false
set_option linter.all false
set_option maxRecDepth 100000
set_option maxHeartbeats 100000
namespace LK
open Z
section
variable {xs ps : List Int} {L : Nat} {R : Nat → D → List D → Prop} {Ed : Exn → List D → Prop}
theorem made4 (hx : Dr xs) (hL : 2 ≤ L) (hL7 : L ≤ 7) (hp : Lt ps) (h0 : ps ≠ []) (hps : ps.length ≤ 4) (h : ∀ ds zs, Dr zs → Ld 200 ds → R 1 (.lst ds) [li zs, .int 4, .int L, li ps]) : sp__law_made [li xs, .int 4, .int L, li ps] R Ed := by
  obtain ⟨v, ev, hv⟩ := pool_0 hp h0
  refine ⟨?_⟩
  have fin : ∀ (z1 : List Int) (X b0 b1 b2 : List D), Dr z1 → Ld 7 X → Ld 2 b0 → Ld 2 b1 → Ld 2 b2 → (wRet (wE (on2 addD) (w2 (wE (on2 addD) (w2 (wE (on2 addD) (w2 (wE (on2 addD) (w2 (wE (on2 addD) (w2 (wE (on2 addD) (w2 (wV 6) (wE (on2 ixD) (w2 (wV 8) (wC (.int 0)))))) (wV 6))) (wE (on2 ixD) (w2 (wV 8) (wC (.int 1)))))) (wV 6))) (wE (on2 ixD) (w2 (wV 8) (wC (.int 2)))))) (wV 6)))) (defEnds [1, 0, 0, 0] [li xs, .int 4, .int L, li ps] R Ed) [some (1, li z1), some (0, .int 4), some (0, .int L), some (0, li ps), none, none, some (1, .lst X), none, some (1, .lst [.lst b0, .lst b1, .lst b2]), none, none, none, none, none, none] := by
    intro z1 X b0 b1 b2 d1 lx l0 l1 l2
    have m1 := lx.app l0
    have m2 := m1.app lx
    have m3 := m2.app l1
    have m4 := m3.app lx
    have m5 := m4.app l2
    have m6 := m5.app lx
    refine Exists.intro _ (And.intro rfl ?_)
    refine And.intro (Nat.le_trans m1.len2 (by decide)) ?_
    refine And.intro (Nat.le_trans m2.len2 (by decide)) ?_
    refine Exists.intro _ (And.intro rfl ?_)
    refine And.intro (Nat.le_trans m3.len2 (by decide)) ?_
    refine And.intro (Nat.le_trans m4.len2 (by decide)) ?_
    refine Exists.intro _ (And.intro rfl ?_)
    refine And.intro (Nat.le_trans m5.len2 (by decide)) ?_
    refine And.intro (Nat.le_trans m6.len2 (by decide)) ?_
    exact And.intro rfl (h _ z1 d1 (m6.up (by decide)))
  have mid : ∀ (z1 : List Int) (X b0 b1 b2 : List D), Dr z1 → Ld 7 X → Ld 2 b0 → Ld 2 b1 → Ld 2 b2 → (wSeq (wIfS (wB (wS (on2V eqD) (w2 (wCall [1, 0] sp__law_take (w2 (wV 0) (wC (.int 2)))) (wC (.int 1))))) (wStore 8 (wC (.int 1)) (wE (on2 ixD) (w2 (wV 8) (wC (.int 0))))) (wNext)) (wRet (wE (on2 addD) (w2 (wE (on2 addD) (w2 (wE (on2 addD) (w2 (wE (on2 addD) (w2 (wE (on2 addD) (w2 (wE (on2 addD) (w2 (wV 6) (wE (on2 ixD) (w2 (wV 8) (wC (.int 0)))))) (wV 6))) (wE (on2 ixD) (w2 (wV 8) (wC (.int 1)))))) (wV 6))) (wE (on2 ixD) (w2 (wV 8) (wC (.int 2)))))) (wV 6))))) (defEnds [1, 0, 0, 0] [li xs, .int 4, .int L, li ps] R Ed) [some (1, li z1), some (0, .int 4), some (0, .int L), some (0, li ps), none, none, some (1, .lst X), none, some (1, .lst [.lst b0, .lst b1, .lst b2]), none, none, none, none, none, none] := by
    intro z1 X b0 b1 b2 d1 lx l0 l1 l2
    refine And.intro (Nat.le_refl 1) ?_
    refine s_take (m := 2) d1 (by decide) fun r1 z2 a2 b2' d2 => ?_
    refine And.intro rfl (And.intro rfl ?_)
    by_cases e : r1 = 1
    · subst e
      refine itT (c := eqB (.int 1) (.int 1)) rfl ?_
      refine Exists.intro _ (And.intro rfl ?_)
      refine Exists.intro _ (And.intro rfl ?_)
      exact fin z2 X b0 b0 b2 d2 lx l0 l0 l2
    · refine itF (c := eqB (.int r1) (.int 1)) (by rw [eqB_int]; exact decide_eq_false e) ?_
      exact fin z2 X b0 b1 b2 d2 lx l0 l1 l2
  have body : ∀ (z1 : List Int) (X : List D), Dr z1 → Ld 7 X → (wSeq (wAsg (.nm 8) (wLc (.nm 13) [13] (wIR1 (w1 (wC (.int 3)))) (wYes) (wCall [1, 0, 0] sp__law_row (wCons (wV 0) (wCons (wV 3) (wCons (wC (.int 2)) (wNil))))))) (wSeq (wIfS (wB (wS (on2V eqD) (w2 (wCall [1, 0] sp__law_take (w2 (wV 0) (wC (.int 2)))) (wC (.int 1))))) (wStore 8 (wC (.int 1)) (wE (on2 ixD) (w2 (wV 8) (wC (.int 0))))) (wNext)) (wRet (wE (on2 addD) (w2 (wE (on2 addD) (w2 (wE (on2 addD) (w2 (wE (on2 addD) (w2 (wE (on2 addD) (w2 (wE (on2 addD) (w2 (wV 6) (wE (on2 ixD) (w2 (wV 8) (wC (.int 0)))))) (wV 6))) (wE (on2 ixD) (w2 (wV 8) (wC (.int 1)))))) (wV 6))) (wE (on2 ixD) (w2 (wV 8) (wC (.int 2)))))) (wV 6)))))) (defEnds [1, 0, 0, 0] [li xs, .int 4, .int L, li ps] R Ed) [some (1, li z1), some (0, .int 4), some (0, .int L), some (0, li ps), none, none, some (1, .lst X), none, none, none, none, none, none, none, none] := by
    intro z1 X d1 lx
    refine And.intro (small_n (by decide) (by decide)) ?_
    refine lcL_inv (fun items acc ρ => ∃ zs, Dr zs ∧ (∀ x ∈ acc, ∃ a, x = .lst a ∧ Ld 2 a) ∧ acc.length + items.length = 3 ∧ ρ = [some (1, li zs), some (0, .int 4), some (0, .int L), some (0, li ps), none, none, some (1, .lst X), none, none, none, none, none, none, none, none]) ⟨z1, d1, (fun _ z => nomatch z), rfl, rfl⟩ ?_ ?_
    · rintro acc ρ ⟨zs, d2, ha, hl, rfl⟩
      obtain ⟨x0, x1, x2, rfl⟩ : ∃ x0 x1 x2, acc = [x0, x1, x2] := by
        match acc, hl with
        | [x0, x1, x2], _ => exact ⟨x0, x1, x2, rfl⟩
      obtain ⟨b0, rfl, l0⟩ := ha x0 (by simp)
      obtain ⟨b1, rfl, l1⟩ := ha x1 (by simp)
      obtain ⟨b2, rfl, l2⟩ := ha x2 (by simp)
      exact mid zs X b0 b1 b2 d2 lx l0 l1 l2
    · rintro x xs2 acc ρ K ⟨zs, d2, ha, hl, rfl⟩ hk
      rw [List.length_cons] at hl
      refine And.intro (Nat.le_refl 1) ?_
      refine s_row (m := 2) d2 hp h0 (by omega) (by decide) fun y4 z4 d4 e4 f4 => ?_
      refine And.intro (by show acc.length < 1000000; omega) ?_
      refine hk _ _ ⟨z4, d4, ?_, ?_, rfl⟩
      · intro y hy
        rcases List.mem_append.mp hy with q | q
        · exact ha y q
        · exact ⟨_, List.mem_singleton.mp q, Ld.of e4 f4⟩
      · rw [List.length_append]; show acc.length + 1 + xs2.length = 3; omega
  refine And.intro rfl (And.intro rfl ?_)
  refine itF (c := eqB (.int 4) (.int 1)) rfl ?_
  refine And.intro rfl (And.intro rfl ?_)
  refine itF (c := eqB (.int 4) (.int 2)) rfl ?_
  refine And.intro rfl (And.intro rfl ?_)
  refine itF (c := eqB (.int 4) (.int 3)) rfl ?_
  refine And.intro rfl (And.intro rfl ?_)
  refine itT (c := eqB (.int 4) (.int 4)) rfl ?_
  refine And.intro (Nat.le_refl 1) ?_
  refine s_row (m := 1) hx hp h0 (by omega) (by decide) fun y1 z1 d1 e1 f1 => ?_
  refine Exists.intro _ (And.intro ev ?_)
  refine And.intro (by show 1 ≤ 1000; decide) ?_
  refine And.intro trivial ?_
  refine mul_l [D.int v] ((L : Int) - 1) (by show 1 ≤ 100; decide) (by omega) (by omega) ?_
  have lx : Ld 6 (List.replicate ((L : Int) - 1).toNat [D.int v]).flatten := ((Ld.one hv).rep _).up (by omega)
  have l1 := Ld.of e1 f1
  refine And.intro (Nat.le_trans (Nat.add_le_add l1.len lx.len) (by decide)) ?_
  exact body z1 _ d1 (l1.app lx)
end
end LK

set_option Elab.async false
set_option linter.all false
set_option maxRecDepth 100000
set_option maxHeartbeats 100000
namespace LK
open Z
section
variable {xs ps : List Int} {L : Nat} {R : Nat → D → List D → Prop} {Ed : Exn → List D → Prop}
theorem lt_24 {ns : List Int} (hn : Lt ns) (hl : ns.length = 24) {i : Int} (hi : Nb 24 i) : ∃ v, L2.atI (ns.map D.int) i = some (.int v) ∧ Nb 100 v := by
  obtain ⟨k, rfl⟩ := Int.eq_ofNat_of_zero_le hi.1
  have hk : k < ns.length := by have := hi.2; omega
  refine ⟨_, sg_get' (b := k) rfl hk, ?_⟩
  rw [List.getElem?_eq_getElem hk]
  exact hn _ (List.getElem_mem hk)
def nameD (ns : List Int) : D → D
  | .int i => (L2.atI (ns.map D.int) i).getD .non
  | _ => .non
theorem nameD_at {ns : List Int} {i : Int} {d : D} (e : L2.atI (ns.map D.int) i = some d) : nameD ns (.int i) = d := by
  show (L2.atI (ns.map D.int) i).getD .non = d
  rw [e]; rfl
theorem made58 {w : Int} (hw : 5 ≤ w) (hw2 : w ≤ 8) (hx : Dr xs) (h : ∀ ds zs, Dr zs → Ld 200 ds → R 1 (.lst ds) [li zs, .int w, .int L, li ps]) : sp__law_made [li xs, .int w, .int L, li ps] R Ed := by
  refine ⟨?_⟩
  have body : ∀ (z2 ns ys : List Int), Dr z2 → Lt ns → ns.length = 24 → (∀ y ∈ ys, Nb 24 y) → ys.length ≤ 48 → (wRet (wLc (.nm 14) [14] (wIL (wV 5)) (wYes) (wE (on2 ixD) (w2 (wV 9) (wV 14))))) (defEnds [1, 0, 0, 0] [li xs, .int w, .int L, li ps] R Ed) [some (1, li z2), some (0, .int w), some (0, .int L), some (0, li ps), none, some (1, li ys), none, none, none, some (1, li ns), none, none, none, none, none] := by
    intro z2 ns ys d2 e2 f2 hy hl
    refine lcL_map (nameD ns) (fun d => ∃ i, d = .int i ∧ Nb 24 i) ?_ ?_ (by rw [List.length_map]; show 0 + ys.length ≤ 1000000; omega) ?_
    · rintro x acc K ⟨i, rfl, hi⟩ hz hk
      obtain ⟨v, ev, hv⟩ := lt_24 e2 f2 hi
      rw [nameD_at ev] at hk
      exact Exists.intro _ (And.intro ev (And.intro hz hk))
    · intro x hx
      obtain ⟨i, hi, rfl⟩ := List.mem_map.mp hx
      exact ⟨i, rfl, hy i hi⟩
    · refine And.intro rfl (h _ z2 d2 ?_)
      refine Ld.map (a := 0) (by rw [List.length_map]; omega) fun x hx => ?_
      obtain ⟨i, hi, rfl⟩ := List.mem_map.mp hx
      obtain ⟨v, ev, hv⟩ := lt_24 e2 f2 (hy i hi)
      exact ⟨v, nameD_at ev, hv⟩
  refine And.intro rfl (And.intro rfl ?_)
  refine itF (c := eqB (.int w) (.int 1)) (by rw [eqB_int]; exact decide_eq_false (by omega)) ?_
  refine And.intro rfl (And.intro rfl ?_)
  refine itF (c := eqB (.int w) (.int 2)) (by rw [eqB_int]; exact decide_eq_false (by omega)) ?_
  refine And.intro rfl (And.intro rfl ?_)
  refine itF (c := eqB (.int w) (.int 3)) (by rw [eqB_int]; exact decide_eq_false (by omega)) ?_
  refine And.intro rfl (And.intro rfl ?_)
  refine itF (c := eqB (.int w) (.int 4)) (by rw [eqB_int]; exact decide_eq_false (by omega)) ?_
  refine itT (c := decide (w ≤ 8)) (decide_eq_true hw2) ?_
  refine And.intro trivial ?_
  refine And.intro (Nat.le_refl 1) ?_
  refine s_take (m := 3) hx (by decide) fun r1 z1 a1 b1 d1 => ?_
  refine s_closed (w := w - 5) (m := 2 + r1) (by omega) (by omega) fun ys hy hl => ?_
  refine And.intro (Nat.le_refl 1) ?_
  refine s_letters (n := 24) d1 (by decide) fun ns z2 d2 e2 f2 => ?_
  exact body z2 ns ys d2 e2 f2 hy hl
end
end LK

set_option Elab.async false
set_option linter.all false
set_option maxRecDepth 100000
set_option maxHeartbeats 100000
namespace LK
open Z
section
variable {xs ps : List Int} {L : Nat} {R : Nat → D → List D → Prop} {Ed : Exn → List D → Prop}
theorem made9 (hx : Dr xs) (hp : Lt ps) (h0 : ps ≠ []) (hps : ps.length ≤ 4) (h : ∀ ds zs, Dr zs → Ld 200 ds → R 1 (.lst ds) [li zs, .int 9, .int L, li ps]) : sp__law_made [li xs, .int 9, .int L, li ps] R Ed := by
  obtain ⟨v, ev, hv⟩ := pool_0 hp h0
  refine ⟨?_⟩
  have fin : ∀ (z4 : List Int) (row : List D) (i j k : Int), Dr z4 → Ld 6 row → (wRet (wE (on2 addD) (w2 (wE (on2 addD) (w2 (wE rSlH (w2 (wV 5) (wInt (wV 12)))) (wE rSl2 (wCons (wV 5) (w2 (wInt (wV 10)) (wInt (wV 11))))))) (wE rSlL (w2 (wV 5) (wInt (wV 12))))))) (defEnds [1, 0, 0, 0] [li xs, .int 9, .int L, li ps] R Ed) [some (1, li z4), some (0, .int 9), some (0, .int L), some (0, li ps), none, some (1, .lst row), none, none, none, none, some (0, .int i), some (0, .int j), some (0, .int k), none, none] := by
    intro z4 row r1 s1 r3 d4 lr
    have l1 := lr.cut none (some r3)
    have l2 := lr.cut (some r1) (some s1)
    have l3 := lr.cut (some r3) none
    refine And.intro (Nat.le_trans (Nat.add_le_add l1.len l2.len) (by decide)) ?_
    have l4 := l1.app l2
    refine And.intro (Nat.le_trans (Nat.add_le_add l4.len l3.len) (by decide)) ?_
    exact And.intro rfl (h _ z4 d4 ((l4.app l3).up (by decide)))
  have b3 : ∀ (z3 : List Int) (row : List D) (i j : Int), Dr z3 → Ld 6 row → (wSeq (wAsg (.nm 12) (wCall [1, 0] sp__law_take (w2 (wV 0) (wE (on2 addD) (w2 (wS (on1V lenD) (w1 (wV 5))) (wC (.int 1))))))) (wRet (wE (on2 addD) (w2 (wE (on2 addD) (w2 (wE rSlH (w2 (wV 5) (wInt (wV 12)))) (wE rSl2 (wCons (wV 5) (w2 (wInt (wV 10)) (wInt (wV 11))))))) (wE rSlL (w2 (wV 5) (wInt (wV 12)))))))) (defEnds [1, 0, 0, 0] [li xs, .int 9, .int L, li ps] R Ed) [some (1, li z3), some (0, .int 9), some (0, .int L), some (0, li ps), none, some (1, .lst row), none, none, none, none, some (0, .int i), some (0, .int j), none, none, none] := by
    intro z3 row i j d3 lr
    refine And.intro (Nat.le_refl 1) ?_
    refine s_take (m := (row.length : Int) + 1) d3 (by omega) fun r3 z4 a3 b3 d4 => ?_
    exact fin z4 row i j r3 d4 lr
  have b2 : ∀ (z2 : List Int) (row : List D) (i : Int), Dr z2 → Ld 6 row → i < row.length → (wSeq (wAsg (.nm 11) (wE (on2 addD) (w2 (wE (on2 addD) (w2 (wV 10) (wC (.int 1)))) (wCall [1, 0] sp__law_take (w2 (wV 0) (wE (on2 subD) (w2 (wS (on1V lenD) (w1 (wV 5))) (wV 10)))))))) (wSeq (wAsg (.nm 12) (wCall [1, 0] sp__law_take (w2 (wV 0) (wE (on2 addD) (w2 (wS (on1V lenD) (w1 (wV 5))) (wC (.int 1))))))) (wRet (wE (on2 addD) (w2 (wE (on2 addD) (w2 (wE rSlH (w2 (wV 5) (wInt (wV 12)))) (wE rSl2 (wCons (wV 5) (w2 (wInt (wV 10)) (wInt (wV 11))))))) (wE rSlL (w2 (wV 5) (wInt (wV 12))))))))) (defEnds [1, 0, 0, 0] [li xs, .int 9, .int L, li ps] R Ed) [some (1, li z2), some (0, .int 9), some (0, .int L), some (0, li ps), none, some (1, .lst row), none, none, none, none, some (0, .int i), none, none, none, none] := by
    intro z2 row i d2 lr hi
    refine And.intro trivial ?_
    refine And.intro (Nat.le_refl 1) ?_
    refine s_take (m := (row.length : Int) - i) d2 (by omega) fun r2 z3 a2 b2 d3 => ?_
    exact b3 z3 row i (i + 1 + r2) d3 lr
  have body : ∀ (z1 : List Int) (row : List D), Dr z1 → Ld 6 row → 1 ≤ row.length → (wSeq (wAsg (.nm 10) (wCall [1, 0] sp__law_take (w2 (wV 0) (wS (on1V lenD) (w1 (wV 5)))))) (wSeq (wAsg (.nm 11) (wE (on2 addD) (w2 (wE (on2 addD) (w2 (wV 10) (wC (.int 1)))) (wCall [1, 0] sp__law_take (w2 (wV 0) (wE (on2 subD) (w2 (wS (on1V lenD) (w1 (wV 5))) (wV 10)))))))) (wSeq (wAsg (.nm 12) (wCall [1, 0] sp__law_take (w2 (wV 0) (wE (on2 addD) (w2 (wS (on1V lenD) (w1 (wV 5))) (wC (.int 1))))))) (wRet (wE (on2 addD) (w2 (wE (on2 addD) (w2 (wE rSlH (w2 (wV 5) (wInt (wV 12)))) (wE rSl2 (wCons (wV 5) (w2 (wInt (wV 10)) (wInt (wV 11))))))) (wE rSlL (w2 (wV 5) (wInt (wV 12)))))))))) (defEnds [1, 0, 0, 0] [li xs, .int 9, .int L, li ps] R Ed) [some (1, li z1), some (0, .int 9), some (0, .int L), some (0, li ps), none, some (1, .lst row), none, none, none, none, none, none, none, none, none] := by
    intro z1 row d1 lr hr
    have hr6 := lr.len
    refine And.intro (Nat.le_refl 1) ?_
    refine s_take (m := (row.length : Nat)) d1 (by omega) fun r1 z2 a1 b1 d2 => ?_
    exact b2 z2 row r1 d2 lr b1
  refine And.intro rfl (And.intro rfl ?_)
  refine itF (c := eqB (.int 9) (.int 1)) rfl ?_
  refine And.intro rfl (And.intro rfl ?_)
  refine itF (c := eqB (.int 9) (.int 2)) rfl ?_
  refine And.intro rfl (And.intro rfl ?_)
  refine itF (c := eqB (.int 9) (.int 3)) rfl ?_
  refine And.intro rfl (And.intro rfl ?_)
  refine itF (c := eqB (.int 9) (.int 4)) rfl ?_
  refine And.intro (Nat.le_refl 1) ?_
  refine s_row (m := 5) hx hp h0 (by omega) (by decide) fun y1 z1 d1 e1 f1 => ?_
  have l1 := Ld.of e1 f1
  refine Exists.intro _ (And.intro ev ?_)
  refine And.intro (by show 1 ≤ 1000; decide) ?_
  refine And.intro (Nat.le_trans (Nat.add_le_add l1.len (Nat.le_refl 1)) (by decide)) ?_
  exact body z1 (y1.map D.int ++ [D.int v]) d1 (l1.app (Ld.one hv)) (by rw [List.length_append]; show 1 ≤ _ + 1; omega)
end
end LK

set_option Elab.async false
set_option linter.all false
set_option maxRecDepth 100000
set_option maxHeartbeats 100000
namespace LK
open Z
section
variable {xs : List Int} {L : Nat} {R : Nat → D → List D → Prop} {Ed : Exn → List D → Prop}
theorem s_letters' {xs : List Int} {n : Nat} {i : Int} {R Ed} (hi : i = n) (hx : Dr xs) (hn : n ≤ 100) (h : ∀ ys zs, Dr zs → Lt ys → ys.length = n → R 1 (li ys) [li zs, .int i]) : sp__law_letters [li xs, .int i] R Ed := by
  subst hi; exact s_letters hx hn h
theorem s_made {ps : List Int} {w : Int} (hw : 1 ≤ w) (hw2 : w ≤ 9) (hx : Dr xs) (hL : 2 ≤ L) (hL7 : L ≤ 7) (hp : Lt ps) (h0 : ps ≠ []) (hps : ps.length ≤ 4) (h : ∀ ds zs, Dr zs → Ld 200 ds → R 1 (.lst ds) [li zs, .int w, .int L, li ps]) : sp__law_made [li xs, .int w, .int L, li ps] R Ed := by
  by_cases e1 : w = 1
  · subst e1; exact made1 hx hL hL7 hp h0 hps h
  by_cases e2 : w = 2
  · subst e2; exact made2 hx hL hL7 hp h0 hps h
  by_cases e3 : w = 3
  · subst e3; exact made3 hx hL hL7 hp h0 hps h
  by_cases e4 : w = 4
  · subst e4; exact made4 hx hL hL7 hp h0 hps h
  by_cases e9 : w = 9
  · subst e9; exact made9 hx hp h0 hps h
  exact made58 (by omega) (by omega) hx h
theorem s_text (hx : Dr xs) (hL : 2 ≤ L) (hL7 : L ≤ 7) (h : ∀ ys zs, Dr zs → Lt ys → ys.length ≤ 14 → R 1 (li ys) [li zs, .int L]) : sp__law_text [li xs, .int L] R Ed := by
  refine ⟨?_⟩
  have fin : ∀ (ds : List D) (zs : List Int), Dr zs → Ld 600 ds → 1 = 1 ∧ R 1 (.lst (cut ds none (some 14))) [li zs, .int L] := by
    rintro _ zs dz ⟨ys, rfl, hy, _⟩
    have e : cut (ys.map D.int) none (some 14) = (ys.take 14).map .int := by rw [cut_map, cut_to _ (by decide)]; rfl
    rw [e]
    exact ⟨rfl, h _ zs dz (fun y q => hy y (List.mem_of_mem_take q)) (by rw [List.length_take]; omega)⟩
  have b6 : ∀ (z ps : List Int) (A B : List D), Dr z → Ld 200 A → Ld 200 B → (wSeq (wAsg (.nm 6) (wCall [1, 0] sp__law_take (w2 (wV 0) (wE (on2 addD) (w2 (wS (on1V lenD) (w1 (wV 4))) (wC (.int 1))))))) (wRet (wE rSlH (w2 (wE (on2 addD) (w2 (wE (on2 addD) (w2 (wE rSlH (w2 (wV 4) (wInt (wV 6)))) (wV 5))) (wE rSlL (w2 (wV 4) (wInt (wV 6)))))) (wInt (wC (.int 14))))))) (defEnds [1, 0] [li xs, .int L] R Ed) [some (1, li z), some (0, .int L), some (0, .int 10), some (0, li ps), some (1, .lst A), some (1, .lst B), none] := by
    intro z ps A B dz la lb
    have la' := la.len
    refine And.intro (Nat.le_refl 1) ?_
    refine s_take (m := (A.length : Int) + 1) dz (by omega) fun r z2 a2 b2 d2 => ?_
    have l1 := la.cut none (some r)
    have l3 := la.cut (some r) none
    refine And.intro (Nat.le_trans (Nat.add_le_add l1.len lb.len) (by decide)) ?_
    have l4 := l1.app lb
    refine And.intro (Nat.le_trans (Nat.add_le_add l4.len l3.len) (by decide)) ?_
    exact fin _ z2 d2 (l4.app l3)
  have b5 : ∀ (z ps : List Int) (A : List D), Dr z → Lt ps → ps ≠ [] → ps.length ≤ 4 → Ld 200 A → (wSeq (wAsg (.nm 5) (wCall [1, 0, 0, 0] sp__law_made (wCons (wV 0) (wCons (wE (on2 addD) (w2 (wC (.int 3)) (wCall [1, 0] sp__law_take (w2 (wV 0) (wC (.int 7)))))) (wCons (wV 1) (wCons (wV 3) (wNil))))))) (wSeq (wAsg (.nm 6) (wCall [1, 0] sp__law_take (w2 (wV 0) (wE (on2 addD) (w2 (wS (on1V lenD) (w1 (wV 4))) (wC (.int 1))))))) (wRet (wE rSlH (w2 (wE (on2 addD) (w2 (wE (on2 addD) (w2 (wE rSlH (w2 (wV 4) (wInt (wV 6)))) (wV 5))) (wE rSlL (w2 (wV 4) (wInt (wV 6)))))) (wInt (wC (.int 14)))))))) (defEnds [1, 0] [li xs, .int L] R Ed) [some (1, li z), some (0, .int L), some (0, .int 10), some (0, li ps), some (1, .lst A), none, none] := by
    intro z ps A dz hp h0 hps la
    refine And.intro (Nat.le_refl 1) ?_
    refine s_take (m := 7) dz (by decide) fun r z2 a2 b2 d2 => ?_
    refine And.intro (Nat.le_refl 1) ?_
    refine s_made (w := 3 + r) (by omega) (by omega) d2 hL hL7 hp h0 hps fun B z3 d3 lb => ?_
    exact b6 z3 ps A B d3 la lb
  have bA : ∀ (z ps : List Int) (w : Int), Dr z → Lt ps → ps ≠ [] → ps.length ≤ 4 → 0 ≤ w → w < 11 → (wSeq (wIfS (wB (wS (on2V eqD) (w2 (wV 2) (wC (.int 0))))) (wRet (wCall [1, 0, 0] sp__law_row (wCons (wV 0) (wCons (wV 3) (wCons (wC (.int 8)) (wNil)))))) (wNext)) (wSeq (wIfS (wB (wS (on2V eqD) (w2 (wV 2) (wC (.int 10))))) (wSeq (wAsg (.nm 4) (wCall [1, 0, 0, 0] sp__law_made (wCons (wV 0) (wCons (wE (on2 addD) (w2 (wC (.int 3)) (wCall [1, 0] sp__law_take (w2 (wV 0) (wC (.int 7)))))) (wCons (wV 1) (wCons (wV 3) (wNil))))))) (wSeq (wAsg (.nm 5) (wCall [1, 0, 0, 0] sp__law_made (wCons (wV 0) (wCons (wE (on2 addD) (w2 (wC (.int 3)) (wCall [1, 0] sp__law_take (w2 (wV 0) (wC (.int 7)))))) (wCons (wV 1) (wCons (wV 3) (wNil))))))) (wSeq (wAsg (.nm 6) (wCall [1, 0] sp__law_take (w2 (wV 0) (wE (on2 addD) (w2 (wS (on1V lenD) (w1 (wV 4))) (wC (.int 1))))))) (wRet (wE rSlH (w2 (wE (on2 addD) (w2 (wE (on2 addD) (w2 (wE rSlH (w2 (wV 4) (wInt (wV 6)))) (wV 5))) (wE rSlL (w2 (wV 4) (wInt (wV 6)))))) (wInt (wC (.int 14))))))))) (wNext)) (wRet (wE rSlH (w2 (wCall [1, 0, 0, 0] sp__law_made (wCons (wV 0) (wCons (wV 2) (wCons (wV 1) (wCons (wV 3) (wNil)))))) (wInt (wC (.int 14)))))))) (defEnds [1, 0] [li xs, .int L] R Ed) [some (1, li z), some (0, .int L), some (0, .int w), some (1, li ps), none, none, none] := by
    intro z ps w dz hp h0 hps w0 w1
    refine And.intro rfl (And.intro rfl ?_)
    by_cases e0 : w = 0
    · subst e0
      refine itT (c := eqB (.int 0) (.int 0)) rfl ?_
      refine And.intro (Nat.le_refl 1) ?_
      refine s_row (m := 8) dz hp h0 (by omega) (by decide) fun ys z2 d2 e2 f2 => ?_
      exact And.intro rfl (h ys z2 d2 e2 (by omega))
    refine itF (c := eqB (.int w) (.int 0)) (by rw [eqB_int]; exact decide_eq_false e0) ?_
    refine And.intro rfl (And.intro rfl ?_)
    by_cases e1 : w = 10
    · subst e1
      refine itT (c := eqB (.int 10) (.int 10)) rfl ?_
      refine And.intro (Nat.le_refl 1) ?_
      refine s_take (m := 7) dz (by decide) fun r z2 a2 b2 d2 => ?_
      refine And.intro (Nat.le_refl 1) ?_
      refine s_made (w := 3 + r) (by omega) (by omega) d2 hL hL7 hp h0 hps fun A z3 d3 la => ?_
      exact b5 z3 ps A d3 hp h0 hps la
    refine itF (c := eqB (.int w) (.int 10)) (by rw [eqB_int]; exact decide_eq_false e1) ?_
    refine And.intro (Nat.le_refl 1) ?_
    refine s_made (w := w) (by omega) (by omega) dz hL hL7 hp h0 hps fun A z3 d3 la => ?_
    exact fin A z3 d3 (la.up (by decide))
  refine And.intro (Nat.le_refl 1) ?_
  refine s_take (m := 11) hx (by decide) fun w z1 w0 w1 d1 => ?_
  refine And.intro (Nat.le_refl 1) ?_
  refine s_take (m := 4) d1 (by decide) fun r z2 a2 b2 d2 => ?_
  obtain ⟨k, rfl⟩ := Int.eq_ofNat_of_zero_le a2
  refine And.intro (Nat.le_refl 1) ?_
  refine s_letters' (n := 1 + k) (by show 1 + (k : Int) = ((1 + k : Nat) : Int); omega) d2 (by omega) fun ps z3 d3 e3 f3 => ?_
  exact bA z3 ps w d3 e3 (by intro e; rw [e] at f3; simp at f3; omega) (by omega) w0 w1
end
end LK

set_option Elab.async false
set_option linter.all false
set_option maxRecDepth 100000
set_option maxHeartbeats 200000
namespace LK
open Z
theorem s_lright {xs : List Int} {R Ed} (hx : Dr xs) (h : ∀ zs, Dr zs → R 0 (.bl true) [li zs]) : sp__law_letters_right [li xs] R Ed := by
  refine ⟨?_⟩
  refine And.intro (Nat.le_refl 1) ?_
  refine s_take (m := 16) hx (by decide) fun r1 z1 a1 b1 d1 => ?_
  refine And.intro (cmulL (by omega) (by omega)) ?_
  refine And.intro (Nat.le_refl 1) ?_
  refine s_take (m := 16) d1 (by decide) fun r2 z2 a2 b2 d2 => ?_
  have body : ∀ n : Int, 0 ≤ n → n ≤ 255 → (wSeq (wFor (.nm 2) (wIL (wLst (wCons (wC (.int 0)) (wCons (wC (.int 99)) (wCons (wV 1) (wNil)))))) (wSeq (wIfS (wAndT (wB (wS (on2V ltD) (w2 (wV 2) (wC (.int 100))))) (wB (wS (on2V isntD) (w2 (wCall [0] sp_is_letter (w1 (wV 2))) (wC (.bl true)))))) (wRet (wC (.bl false))) (wNext)) (wIfS (wAndT (wB (wS (on2V geD) (w2 (wV 2) (wC (.int 100))))) (wB (wS (on2V isntD) (w2 (wCall [0] sp_is_letter (w1 (wV 2))) (wC (.bl false)))))) (wRet (wC (.bl false))) (wNext)))) (wSeq (wFor (.nm 2) (wIL (wLst (wCons (wC (.int 100)) (wCons (wS (on1V negD) (w1 (wC (.int 1)))) (wCons (wS (on1V negD) (w1 (wC (.int 2)))) (wCons (wE (on2 subD) (w2 (wS (on1V negD) (w1 (wV 1))) (wC (.int 1)))) (wCons (wC (.bl true)) (wCons (wC (.bl false)) (wCons (wC .non) (wCons (wC (.str "5")) (wCons (wTup (w1 (wC (.int 5)))) (wCons (wLst (w1 (wC (.int 5)))) (wNil))))))))))))) (wIfS (wB (wS (on2V isntD) (w2 (wCall [0] sp_is_letter (w1 (wV 2))) (wC (.bl false))))) (wRet (wC (.bl false))) (wNext))) (wRet (wAnd (wCall [0] sp__law_int (w1 (wC (.int (-1))))) (wAnd (wS (on2V eqD) (w2 (wC (.int (-1))) (wS (on1V negD) (w1 (wC (.int 1)))))) (wAnd (wCall [0] sp__law_int (w1 (wC (.int (-2))))) (wS (on2V eqD) (w2 (wC (.int (-2))) (wS (on1V negD) (w1 (wC (.int 2)))))))))))) (defEnds [1] [li xs] R Ed) [some (1, li z2), some (0, .int n), none] := by
    intro n h0 h1
    refine And.intro (by show 3 ≤ 1000; decide) ?_
    refine forL_inv (fun items ρ => (∀ x ∈ items, ∃ i : Int, x = .int i ∧ 0 ≤ i) ∧ ∃ s2, ρ = [some (1, li z2), some (0, .int n), s2]) ⟨?_, none, rfl⟩ ?_ ?_
    · intro x hx
      simp at hx
      rcases hx with rfl | rfl | rfl
      · exact ⟨0, rfl, by decide⟩
      · exact ⟨99, rfl, by decide⟩
      · exact ⟨n, rfl, h0⟩
    · rintro ρ ⟨-, s2, rfl⟩
      refine And.intro trivial ?_
      refine And.intro (by show 1 ≤ 1000; decide) ?_
      refine And.intro (by show 1 ≤ 1000; decide) ?_
      refine And.intro (by show 10 ≤ 1000; decide) ?_
      refine forL_inv (fun items ρ => (∀ x ∈ items, (typD x).isSome = true ∧ letD x = false) ∧ ∃ s2, ρ = [some (1, li z2), some (0, .int n), s2]) ⟨?_, s2, rfl⟩ ?_ ?_
      · intro x hx
        simp at hx
        rcases hx with rfl | rfl | rfl | rfl | rfl | rfl | rfl | rfl | rfl | rfl
        all_goals first | exact ⟨rfl, rfl⟩ | exact ⟨rfl, by simp [letD]; omega⟩
      · rintro ρ ⟨-, s2, rfl⟩
        refine s_lint rfl ?_
        refine And.intro rfl (And.intro rfl ?_)
        refine s_lint rfl ?_
        refine And.intro rfl (And.intro rfl ?_)
        exact And.intro rfl (h z2 d2)
      · rintro x xs2 ρ K ⟨hx, s2, rfl⟩ hk
        obtain ⟨t1, t2⟩ := hx x List.mem_cons_self
        refine s_is_letter t1 ?_
        rw [t2]
        exact hk _ ⟨fun y hy => hx y (List.mem_cons_of_mem _ hy), _, rfl⟩
    · rintro x xs2 ρ K ⟨hx, s2, rfl⟩ hk
      obtain ⟨i, rfl, hi⟩ := hx x List.mem_cons_self
      have fin : K [some (1, li z2), some (0, .int n), some (0, .int i)] := hk _ ⟨fun y hy => hx y (List.mem_cons_of_mem _ hy), _, rfl⟩
      by_cases e : i < 100
      · refine itT (c := decide (i < 100)) (decide_eq_true e) ?_
        refine s_is_letter rfl ?_
        rw [letD_int ⟨hi, by omega⟩]
        refine itF (c := decide ((100 : Int) ≤ i)) (decide_eq_false (by omega)) ?_
        exact fin
      · refine itF (c := decide (i < 100)) (decide_eq_false e) ?_
        refine itT (c := decide ((100 : Int) ≤ i)) (decide_eq_true (by omega)) ?_
        refine s_is_letter rfl ?_
        have e2 : letD (.int i) = false := by simp [letD]; omega
        rw [e2]
        exact fin
  exact body (r1 * 16 + r2) (by omega) (by omega)
end LK

set_option Elab.async false
set_option linter.all false
set_option maxRecDepth 100000
set_option maxHeartbeats 200000
namespace LK
open Z
theorem pd_numX : pdB 60 numX = true := by decide +kernel
theorem pd_len : pdB 60 (.str "length") = true := by decide +kernel
theorem pd_sign : pdB 60 (.str "sign") = true := by decide +kernel
theorem pd_beh : pdB 60 (.str "behind") = true := by decide +kernel
theorem pd_winX : pdB 60 winX = true := by decide +kernel
theorem s_refuse {xs ts : List Int} {L : Nat} {R Ed} (hx : Dr xs) (hl : ∀ x ∈ ts, Let x) (h60 : ts.length ≤ 60) (hL : 2 ≤ L) (hL2 : L ≤ 69) (h : ∀ zs, Dr zs → R 0 (.bl true) [li zs, li ts, .int L]) : sp__law_refusals_right [li xs, li ts, .int L] R Ed := by
  refine ⟨?_⟩
  have bE : ∀ (z : List Int) (v : D) (s4 : Slot) (r : Int), Dr z → 0 ≤ r → r < 4 → (wSeq (wIfS (wB (wS (on2V neD) (w2 (wCall [0, 0, 0, 0] sp__law_named (wCons (wC (.int 1)) (wCons (wV 1) (wCons (wV 2) (wCons (wE (on2 ixD) (w2 (wLst (wCons (wC (.int 0)) (wCons (wE (on2 addD) (w2 (wS (on1V lenD) (w1 (wV 1))) (wC (.int 2)))) (wCons (wC (.bl true)) (wCons (wC .non) (wNil)))))) (wV 5))) (wNil)))))) (wC (.str "sign"))))) (wRet (wC (.bl false))) (wNext)) (wRet (wS (on2V eqD) (w2 (wCall [0, 0, 0, 0] sp__law_named (wCons (wC (.int 2)) (wCons (wV 1) (wCons (wV 2) (wCons (wE (on2 ixD) (w2 (wLst (wCons (wS (on1V negD) (w1 (wC (.int 1)))) (wCons (wE (on2 addD) (w2 (wS (on1V lenD) (w1 (wV 1))) (wC (.int 2)))) (wCons (wC (.bl false)) (wCons (wC .non) (wNil)))))) (wV 5))) (wNil)))))) (wC (.str "behind")))))) (defEnds [1, 0, 0] [li xs, li ts, .int L] R Ed) [some (1, li z), some (0, li ts), some (0, .int L), some (0, v), s4, some (0, .int r)] := by
    intro z v s4 r dz r0 r4
    have hlen : (((ts.map D.int).length : Nat) : Int) = ts.length := by rw [List.length_map]
    have last : ∀ a, a = D.int (-1) ∨ a = D.int ((((ts.map D.int).length : Nat) : Int) + 2) ∨ a = D.bl false ∨ a = D.non → offD a 0 (ts.length + 1) := by
      rintro a (rfl | rfl | rfl | rfl)
      · exact .inl (by decide)
      · exact .inr (by omega)
      · exact rfl
      · exact rfl
    have fst : ∀ a, a = D.int 0 ∨ a = D.int ((((ts.map D.int).length : Nat) : Int) + 2) ∨ a = D.bl true ∨ a = D.non → offD a 1 (ts.length + 1) := by
      rintro a (rfl | rfl | rfl | rfl)
      · exact .inl (by decide)
      · exact .inr (by omega)
      · exact rfl
      · exact rfl
    have eb : eqB (.str "behind") (.str "behind") = true := by decide +kernel
    have fin : R 0 (.bl (eqB (.str "behind") (.str "behind"))) [li z, li ts, .int L] := by rw [eb]; exact h z dz
    have cs : r = 0 ∨ r = 1 ∨ r = 2 ∨ r = 3 := by omega
    refine And.intro (by show 4 ≤ 1000; decide) ?_
    rcases cs with rfl | rfl | rfl | rfl
    all_goals
      refine Exists.intro _ (And.intro rfl ?_)
      refine nms .l hl h60 hL (by omega) (fst _ (by simp)) ?_
      refine And.intro pd_sign (And.intro pd_sign ?_)
      refine itF (c := !(eqB (.str "sign") (.str "sign"))) (by decide +kernel) ?_
      refine And.intro (by show 4 ≤ 1000; decide) ?_
      refine Exists.intro _ (And.intro rfl ?_)
      refine nmb .l hl h60 hL (by omega) (last _ (by simp)) ?_
      refine And.intro pd_beh (And.intro pd_beh ?_)
      exact And.intro rfl fin
  have bD : ∀ (z : List Int) (v : D) (s4 : Slot), Dr z → (wSeq (wIfS (wOrT (wB (wS (on2V neD) (w2 (wCall [0, 0, 0] sp__law_ask (wCons (wC (.int 2)) (wCons (wC .non) (wCons (wC (.int 70)) (wNil))))) (wTup (w2 (wC (.str "number")) (wC (.str "length"))))))) (wB (wS (on2V neD) (w2 (wCall [0, 0, 0] sp__law_ask (wCons (wC (.int 2)) (wCons (wC .non) (wCons (wC (.int 69)) (wNil))))) (wTup (w2 (wC (.str "window")) (wS (on1V negD) (w1 (wC (.int 1)))))))))) (wRet (wC (.bl false))) (wNext)) (wSeq (wAsg (.nm 5) (wCall [1, 0] sp__law_take (w2 (wV 0) (wC (.int 4))))) (wSeq (wIfS (wB (wS (on2V neD) (w2 (wCall [0, 0, 0, 0] sp__law_named (wCons (wC (.int 1)) (wCons (wV 1) (wCons (wV 2) (wCons (wE (on2 ixD) (w2 (wLst (wCons (wC (.int 0)) (wCons (wE (on2 addD) (w2 (wS (on1V lenD) (w1 (wV 1))) (wC (.int 2)))) (wCons (wC (.bl true)) (wCons (wC .non) (wNil)))))) (wV 5))) (wNil)))))) (wC (.str "sign"))))) (wRet (wC (.bl false))) (wNext)) (wRet (wS (on2V eqD) (w2 (wCall [0, 0, 0, 0] sp__law_named (wCons (wC (.int 2)) (wCons (wV 1) (wCons (wV 2) (wCons (wE (on2 ixD) (w2 (wLst (wCons (wS (on1V negD) (w1 (wC (.int 1)))) (wCons (wE (on2 addD) (w2 (wS (on1V lenD) (w1 (wV 1))) (wC (.int 2)))) (wCons (wC (.bl false)) (wCons (wC .non) (wNil)))))) (wV 5))) (wNil)))))) (wC (.str "behind")))))))) (defEnds [1, 0, 0] [li xs, li ts, .int L] R Ed) [some (1, li z), some (0, li ts), some (0, .int L), some (0, v), s4, none] := by
    intro z v s4 dz
    refine ask2_num (v := .int 70) (.inr (by decide)) ?_
    refine And.intro (by show 2 ≤ 1000; decide) ?_
    refine And.intro pd_numX (And.intro pd_numX ?_)
    refine itF (c := !(eqB numX numX)) (by decide +kernel) ?_
    refine ask2_no (L := 69) ⟨rfl, fun _ e => nomatch e⟩ rfl (by decide) (by decide) ?_
    refine And.intro (by show 2 ≤ 1000; decide) ?_
    refine And.intro pd_winX (And.intro pd_winX ?_)
    refine itF (c := !(eqB winX winX)) (by decide +kernel) ?_
    refine And.intro (Nat.le_refl 1) ?_
    refine s_take (m := 4) dz (by decide) fun r z2 a2 b2 d2 => ?_
    exact bE z2 v s4 r d2 a2 b2
  have bC : ∀ (z : List Int) (v : D) (s4 : Slot), Dr z → offD v 2 70 → offD v 2 69 → (wSeq (wFor (.nm 4) (wIR1 (w1 (wC (.int 3)))) (wIfS (wB (wS (on2V neD) (w2 (wCall [0, 0, 0] sp__law_ask (wCons (wV 4) (wCons (wC .non) (wCons (wV 3) (wNil))))) (wTup (w2 (wC (.str "number")) (wC (.str "length"))))))) (wRet (wC (.bl false))) (wNext))) (wSeq (wIfS (wOrT (wB (wS (on2V neD) (w2 (wCall [0, 0, 0] sp__law_ask (wCons (wC (.int 2)) (wCons (wC .non) (wCons (wC (.int 70)) (wNil))))) (wTup (w2 (wC (.str "number")) (wC (.str "length"))))))) (wB (wS (on2V neD) (w2 (wCall [0, 0, 0] sp__law_ask (wCons (wC (.int 2)) (wCons (wC .non) (wCons (wC (.int 69)) (wNil))))) (wTup (w2 (wC (.str "window")) (wS (on1V negD) (w1 (wC (.int 1)))))))))) (wRet (wC (.bl false))) (wNext)) (wSeq (wAsg (.nm 5) (wCall [1, 0] sp__law_take (w2 (wV 0) (wC (.int 4))))) (wSeq (wIfS (wB (wS (on2V neD) (w2 (wCall [0, 0, 0, 0] sp__law_named (wCons (wC (.int 1)) (wCons (wV 1) (wCons (wV 2) (wCons (wE (on2 ixD) (w2 (wLst (wCons (wC (.int 0)) (wCons (wE (on2 addD) (w2 (wS (on1V lenD) (w1 (wV 1))) (wC (.int 2)))) (wCons (wC (.bl true)) (wCons (wC .non) (wNil)))))) (wV 5))) (wNil)))))) (wC (.str "sign"))))) (wRet (wC (.bl false))) (wNext)) (wRet (wS (on2V eqD) (w2 (wCall [0, 0, 0, 0] sp__law_named (wCons (wC (.int 2)) (wCons (wV 1) (wCons (wV 2) (wCons (wE (on2 ixD) (w2 (wLst (wCons (wS (on1V negD) (w1 (wC (.int 1)))) (wCons (wE (on2 addD) (w2 (wS (on1V lenD) (w1 (wV 1))) (wC (.int 2)))) (wCons (wC (.bl false)) (wCons (wC .non) (wNil)))))) (wV 5))) (wNil)))))) (wC (.str "behind"))))))))) (defEnds [1, 0, 0] [li xs, li ts, .int L] R Ed) [some (1, li z), some (0, li ts), some (0, .int L), some (0, v), s4, none] := by
    intro z v s4 dz o1 o2
    refine And.intro (small_n (by decide) (by decide)) ?_
    refine forL_inv (fun items ρ => (∀ x ∈ items, x = .int 0 ∨ x = .int 1 ∨ x = .int 2) ∧ ∃ s4, ρ = [some (1, li z), some (0, li ts), some (0, .int L), some (0, v), s4, none]) ⟨?_, s4, rfl⟩ ?_ ?_
    · intro x hx
      obtain ⟨b, hb, rfl⟩ := List.mem_map.mp hx
      have hb' : b < 3 := List.mem_range.mp hb
      match b, hb' with
      | 0, _ => exact .inl rfl
      | 1, _ => exact .inr (.inl rfl)
      | 2, _ => exact .inr (.inr rfl)
    · rintro ρ ⟨-, s4, rfl⟩
      exact bD z v s4 dz
    · rintro x xs2 ρ K ⟨hx, s4, rfl⟩ hk
      have fin : ∀ x, K [some (1, li z), some (0, li ts), some (0, .int L), some (0, v), some (0, x), none] := fun x => hk _ ⟨fun y hy => hx y (List.mem_cons_of_mem _ hy), _, rfl⟩
      rcases hx x List.mem_cons_self with rfl | rfl | rfl
      · refine ask0_num o1 ?_
        refine And.intro (by show 2 ≤ 1000; decide) ?_
        refine And.intro pd_numX (And.intro pd_numX ?_)
        refine itF (c := !(eqB numX numX)) (by decide +kernel) ?_
        exact fin _
      · refine ask1_num o1 ?_
        refine And.intro (by show 2 ≤ 1000; decide) ?_
        refine And.intro pd_numX (And.intro pd_numX ?_)
        refine itF (c := !(eqB numX numX)) (by decide +kernel) ?_
        exact fin _
      · refine ask2_num o2 ?_
        refine And.intro (by show 2 ≤ 1000; decide) ?_
        refine And.intro pd_numX (And.intro pd_numX ?_)
        refine itF (c := !(eqB numX numX)) (by decide +kernel) ?_
        exact fin _
  have bB : ∀ (z : List Int) (v : D), Dr z → offD v 2 70 → offD v 2 69 → (wSeq (wFor (.nm 4) (wIR1 (w1 (wC (.int 4)))) (wIfS (wB (wS (on2V neD) (w2 (wCall [0, 0, 0, 0] sp__law_named (wCons (wV 4) (wCons (wV 1) (wCons (wV 3) (wCons (wS (on1V negD) (w1 (wC (.int 1)))) (wNil)))))) (wC (.str "length"))))) (wRet (wC (.bl false))) (wNext))) (wSeq (wFor (.nm 4) (wIR1 (w1 (wC (.int 3)))) (wIfS (wB (wS (on2V neD) (w2 (wCall [0, 0, 0] sp__law_ask (wCons (wV 4) (wCons (wC .non) (wCons (wV 3) (wNil))))) (wTup (w2 (wC (.str "number")) (wC (.str "length"))))))) (wRet (wC (.bl false))) (wNext))) (wSeq (wIfS (wOrT (wB (wS (on2V neD) (w2 (wCall [0, 0, 0] sp__law_ask (wCons (wC (.int 2)) (wCons (wC .non) (wCons (wC (.int 70)) (wNil))))) (wTup (w2 (wC (.str "number")) (wC (.str "length"))))))) (wB (wS (on2V neD) (w2 (wCall [0, 0, 0] sp__law_ask (wCons (wC (.int 2)) (wCons (wC .non) (wCons (wC (.int 69)) (wNil))))) (wTup (w2 (wC (.str "window")) (wS (on1V negD) (w1 (wC (.int 1)))))))))) (wRet (wC (.bl false))) (wNext)) (wSeq (wAsg (.nm 5) (wCall [1, 0] sp__law_take (w2 (wV 0) (wC (.int 4))))) (wSeq (wIfS (wB (wS (on2V neD) (w2 (wCall [0, 0, 0, 0] sp__law_named (wCons (wC (.int 1)) (wCons (wV 1) (wCons (wV 2) (wCons (wE (on2 ixD) (w2 (wLst (wCons (wC (.int 0)) (wCons (wE (on2 addD) (w2 (wS (on1V lenD) (w1 (wV 1))) (wC (.int 2)))) (wCons (wC (.bl true)) (wCons (wC .non) (wNil)))))) (wV 5))) (wNil)))))) (wC (.str "sign"))))) (wRet (wC (.bl false))) (wNext)) (wRet (wS (on2V eqD) (w2 (wCall [0, 0, 0, 0] sp__law_named (wCons (wC (.int 2)) (wCons (wV 1) (wCons (wV 2) (wCons (wE (on2 ixD) (w2 (wLst (wCons (wS (on1V negD) (w1 (wC (.int 1)))) (wCons (wE (on2 addD) (w2 (wS (on1V lenD) (w1 (wV 1))) (wC (.int 2)))) (wCons (wC (.bl false)) (wCons (wC .non) (wNil)))))) (wV 5))) (wNil)))))) (wC (.str "behind")))))))))) (defEnds [1, 0, 0] [li xs, li ts, .int L] R Ed) [some (1, li z), some (0, li ts), some (0, .int L), some (0, v), none, none] := by
    intro z v dz o1 o2
    refine And.intro (small_n (by decide) (by decide)) ?_
    refine forL_inv (fun items ρ => (∀ x ∈ items, x = .int 0 ∨ x = .int 1 ∨ x = .int 2 ∨ x = .int 3) ∧ ∃ s4, ρ = [some (1, li z), some (0, li ts), some (0, .int L), some (0, v), s4, none]) ⟨?_, none, rfl⟩ ?_ ?_
    · intro x hx
      obtain ⟨b, hb, rfl⟩ := List.mem_map.mp hx
      have hb' : b < 4 := List.mem_range.mp hb
      match b, hb' with
      | 0, _ => exact .inl rfl
      | 1, _ => exact .inr (.inl rfl)
      | 2, _ => exact .inr (.inr (.inl rfl))
      | 3, _ => exact .inr (.inr (.inr rfl))
    · rintro ρ ⟨-, s4, rfl⟩
      exact bC z v s4 dz o1 o2
    · rintro x xs2 ρ K ⟨hx, s4, rfl⟩ hk
      have fin : ∀ x, K [some (1, li z), some (0, li ts), some (0, .int L), some (0, v), some (0, x), none] := fun x => hk _ ⟨fun y hy => hx y (List.mem_cons_of_mem _ hy), _, rfl⟩
      rcases hx x List.mem_cons_self with rfl | rfl | rfl | rfl
      · refine nm0 .l hl h60 o1 ?_
        refine And.intro pd_len (And.intro pd_len ?_)
        refine itF (c := !(eqB (.str "length") (.str "length"))) (by decide +kernel) ?_
        exact fin _
      · refine nm1 .l hl h60 o1 ?_
        refine And.intro pd_len (And.intro pd_len ?_)
        refine itF (c := !(eqB (.str "length") (.str "length"))) (by decide +kernel) ?_
        exact fin _
      · refine nm2 .l hl h60 o1 ?_
        refine And.intro pd_len (And.intro pd_len ?_)
        refine itF (c := !(eqB (.str "length") (.str "length"))) (by decide +kernel) ?_
        exact fin _
      · refine nm3 o1 ?_
        refine And.intro pd_len (And.intro pd_len ?_)
        refine itF (c := !(eqB (.str "length") (.str "length"))) (by decide +kernel) ?_
        exact fin _
  refine And.intro (by show 7 ≤ 1000; decide) ?_
  refine And.intro (Nat.le_refl 1) ?_
  refine s_take (m := 7) hx (by decide) fun r z2 r0 r7 d2 => ?_
  have cs : r = 0 ∨ r = 1 ∨ r = 2 ∨ r = 3 ∨ r = 4 ∨ r = 5 ∨ r = 6 := by omega
  rcases cs with rfl | rfl | rfl | rfl | rfl | rfl | rfl
  · exact Exists.intro _ (And.intro rfl (bB z2 (.int 1) d2 (.inl (by decide)) (.inl (by decide))))
  · exact Exists.intro _ (And.intro rfl (bB z2 (.int 71) d2 (.inr (by decide)) (.inr (by decide))))
  · exact Exists.intro _ (And.intro rfl (bB z2 (.bl true) d2 rfl rfl))
  · exact Exists.intro _ (And.intro rfl (bB z2 .non d2 rfl rfl))
  · exact Exists.intro _ (And.intro rfl (bB z2 (.str "3") d2 rfl rfl))
  · exact Exists.intro _ (And.intro rfl (bB z2 (.int 0) d2 (.inl (by decide)) (.inl (by decide))))
  · exact Exists.intro _ (And.intro rfl (bB z2 (.int (-2)) d2 (.inl (by decide)) (.inl (by decide))))
end LK

set_option Elab.async false
set_option linter.all false
set_option maxRecDepth 100000
set_option maxHeartbeats 200000
namespace LK
open Z
theorem cut_ti (xs : List Int) (lo hi : Option Int) : cut (xs.map D.int) lo hi = (cut xs lo hi).map .int := cut_map _ _ _ _
theorem okV_lst {ds : List D} : okV (.lst ds) := ⟨rfl, fun _ e => nomatch e⟩
theorem okV_tup {ds : List D} (h : ∀ x ∈ ds, (typD x).isSome = true) (hl : ds.length ≤ 1000) : okV (.tup ds) := ⟨rfl, fun _ e => by injection e with e; subst e; exact ⟨h, hl⟩⟩
/-- a bent window: something that may be asked about -/
theorem s_bent {xs ws : List Int} {R Ed} (hx : Dr xs) (h2 : 2 ≤ ws.length) (hz : ws.length ≤ 62) (h : ∀ n d zs, Dr zs → okV d → R n d [li zs, ti ws]) : sp__law_bent [li xs, ti ws] R Ed := by
  refine ⟨?_⟩
  have body : ∀ (z : List Int) (k w : Int), Dr z → 0 ≤ k → k < ws.length → 0 ≤ w → w < 16 → (wSeq (wIfS (wB (wS (on2V eqD) (w2 (wV 4) (wC (.int 0))))) (wRet (wV 2)) (wNext)) (wSeq (wIfS (wB (wS (on2V leD) (w2 (wV 4) (wC (.int 4))))) (wRet (wE (on2 ixD) (w2 (wLst (wCons (wE rSlL (w2 (wV 1) (wInt (wC (.int 1))))) (wCons (wE (on2 addD) (w2 (wE rSlH (w2 (wV 1) (wInt (wC (.int 1))))) (wV 1))) (wCons (wE rSlH (w2 (wV 1) (wInt (wS (on1V negD) (w1 (wC (.int 1))))))) (wCons (wE (on2 addD) (w2 (wV 1) (wTup (w1 (wC (.int 5)))))) (wNil)))))) (wE (on2 subD) (w2 (wV 4) (wC (.int 1))))))) (wNext)) (wSeq (wIfS (wB (wS (on2V leD) (w2 (wV 4) (wC (.int 6))))) (wRet (wE (on2 ixD) (w2 (wLst (w2 (wC (.str "01")) (wC .non))) (wE (on2 subD) (w2 (wV 4) (wC (.int 5))))))) (wNext)) (wSeq (wIfS (wB (wS (on2V eqD) (w2 (wV 4) (wC (.int 7))))) (wRet (wTup (wNil))) (wNext)) (wSeq (wIfS (wB (wS (on2V leD) (w2 (wV 4) (wC (.int 14))))) (wStore 2 (wV 3) (wE (on2 ixD) (w2 (wLst (wCons (wC (.int 100)) (wCons (wS (on1V negD) (w1 (wC (.int 1)))) (wCons (wS (on1V negD) (w1 (wC (.int 2)))) (wCons (wC (.bl true)) (wCons (wC .non) (wCons (wC (.int 0)) (wCons (wC (.int 99)) (wNil))))))))) (wE (on2 subD) (w2 (wV 4) (wC (.int 8))))))) (wNext)) (wRet (wE (on1 tupD) (w1 (wV 2))))))))) (defEnds [1, 0] [li xs, ti ws] R Ed) [some (1, li z), some (0, ti ws), some (1, li ws), some (0, .int k), some (0, .int w), none] := by
    intro z k w dz k0 k1 w0 w1
    have wl : ∀ x ∈ ws.map D.int, (typD x).isSome = true := fun x hx => by
      obtain ⟨n, _, rfl⟩ := List.mem_map.mp hx
      rfl
    have cutOk : ∀ lo hi, okV (.tup (cut (ws.map D.int) lo hi)) := fun lo hi => by
      rw [cut_map]
      refine okV_ti ?_
      have q : (cut ws lo hi).length ≤ ws.length := ((List.take_sublist _ _).trans (List.drop_sublist _ _)).length_le
      omega
    refine And.intro rfl (And.intro rfl ?_)
    by_cases e0 : w = 0
    · subst e0
      refine itT (c := eqB (.int 0) (.int 0)) rfl ?_
      exact And.intro rfl (h 1 _ z dz okV_lst)
    refine itF (c := eqB (.int w) (.int 0)) (by rw [eqB_int]; exact decide_eq_false e0) ?_
    have cl : ∀ lo hi, (cut (ws.map D.int) lo hi).length ≤ 62 := fun lo hi => by
      rw [cut_map, List.length_map]
      have q : (cut ws lo hi).length ≤ ws.length := ((List.take_sublist _ _).trans (List.drop_sublist _ _)).length_le
      omega
    have cm : ∀ lo hi, ∀ x ∈ cut (ws.map D.int) lo hi, (typD x).isSome = true := fun lo hi x hx => wl x (((List.take_sublist _ _).trans (List.drop_sublist _ _)).subset hx)
    have hw : (ws.map D.int).length ≤ 62 := by rw [List.length_map]; exact hz
    by_cases e4 : w ≤ 4
    · refine itT (c := decide (w ≤ 4)) (decide_eq_true e4) ?_
      refine And.intro (Nat.le_trans (Nat.add_le_add (cl _ _) hw) (by decide)) ?_
      refine And.intro (by show 1 ≤ 1000; decide) ?_
      refine And.intro (Nat.le_trans (Nat.add_le_add hw (Nat.le_refl 1)) (by decide)) ?_
      refine And.intro (by show 4 ≤ 1000; decide) ?_
      refine And.intro trivial ?_
      have cs : w = 1 ∨ w = 2 ∨ w = 3 ∨ w = 4 := by omega
      rcases cs with rfl | rfl | rfl | rfl
      · exact Exists.intro _ (And.intro rfl (And.intro rfl (h 0 _ z dz (cutOk _ _))))
      · exact Exists.intro _ (And.intro rfl (And.intro rfl (h 0 _ z dz (okV_tup (fun x hx => (List.mem_append.mp hx).elim (cm _ _ x) (wl x)) (by rw [List.length_append]; exact Nat.le_trans (Nat.add_le_add (cl _ _) hw) (by decide))))))
      · exact Exists.intro _ (And.intro rfl (And.intro rfl (h 0 _ z dz (cutOk _ _))))
      · exact Exists.intro _ (And.intro rfl (And.intro rfl (h 0 _ z dz (okV_tup (fun x hx => (List.mem_append.mp hx).elim (wl x) fun q => by rw [List.mem_singleton.mp q]; rfl) (by rw [List.length_append]; exact Nat.le_trans (Nat.add_le_add hw (Nat.le_refl 1)) (by decide))))))
    refine itF (c := decide (w ≤ 4)) (decide_eq_false e4) ?_
    by_cases e6 : w ≤ 6
    · refine itT (c := decide (w ≤ 6)) (decide_eq_true e6) ?_
      refine And.intro (by show 2 ≤ 1000; decide) ?_
      refine And.intro trivial ?_
      have cs : w = 5 ∨ w = 6 := by omega
      rcases cs with rfl | rfl
      · exact Exists.intro _ (And.intro rfl (And.intro rfl (h 0 (.str "01") z dz ⟨rfl, fun _ e => nomatch e⟩)))
      · exact Exists.intro _ (And.intro rfl (And.intro rfl (h 0 .non z dz ⟨rfl, fun _ e => nomatch e⟩)))
    refine itF (c := decide (w ≤ 6)) (decide_eq_false e6) ?_
    refine And.intro rfl (And.intro rfl ?_)
    by_cases e7 : w = 7
    · subst e7
      refine itT (c := eqB (.int 7) (.int 7)) rfl ?_
      exact And.intro (by decide) (And.intro rfl (h 0 (.tup []) z dz (okV_tup (fun _ q => nomatch q) (by decide))))
    refine itF (c := eqB (.int w) (.int 7)) (by rw [eqB_int]; exact decide_eq_false e7) ?_
    by_cases e14 : w ≤ 14
    · refine itT (c := decide (w ≤ 14)) (decide_eq_true e14) ?_
      refine And.intro (by show 7 ≤ 1000; decide) ?_
      refine And.intro trivial ?_
      have es : ∀ d, setI (ws.map D.int) k d = some ((ws.map D.int).set k.toNat d) := fun d => by
        unfold setI L2.ixN
        rw [if_pos k0, if_pos (by rw [List.length_map]; exact k1)]; rfl
      have ok : ∀ d, (typD d).isSome = true → 1 = 1 ∧ R 0 (.tup ((ws.map D.int).set k.toNat d)) [li z, ti ws] := fun d hd => ⟨rfl, h 0 _ z dz (okV_tup (fun x hx => (List.mem_or_eq_of_mem_set hx).elim (wl x) fun e => e ▸ hd) (by rw [List.length_set]; exact Nat.le_trans hw (by decide)))⟩
      have cs : w = 8 ∨ w = 9 ∨ w = 10 ∨ w = 11 ∨ w = 12 ∨ w = 13 ∨ w = 14 := by omega
      rcases cs with rfl | rfl | rfl | rfl | rfl | rfl | rfl
      all_goals exact Exists.intro _ (And.intro rfl (Exists.intro _ (And.intro (es _) (ok _ rfl))))
    · refine itF (c := decide (w ≤ 14)) (decide_eq_false e14) ?_
      exact And.intro rfl (h 0 _ z dz (okV_tup wl (Nat.le_trans hw (by decide))))
  refine lcL_map (fun d => d) (fun _ => True) ?_ (fun _ _ => trivial) (by rw [List.length_map]; show 0 + ws.length ≤ 1000000; omega) ?_
  · intro x acc K _ hz hk
    exact And.intro hz hk
  rw [List.nil_append, List.map_id']
  refine And.intro (Nat.le_refl 1) ?_
  refine s_take (m := 16) hx (by decide) fun r1 z1 a1 b1 d1 => ?_
  refine And.intro (by rw [List.length_map]; show (0 : Int) < (ws.length : Nat); omega) ?_
  refine And.intro (Nat.le_refl 1) ?_
  refine s_take (m := 16) d1 (by decide) fun w z2 w0 w1 d2 => ?_
  exact body z2 (r1 % (((ws.map D.int).length : Nat) : Int)) w d2 (Int.emod_nonneg _ (by rw [List.length_map]; omega)) (by rw [List.length_map]; exact Int.emod_lt_of_pos _ (by omega)) w0 w1
end LK

set_option Elab.async false
set_option linter.all false
set_option maxRecDepth 100000
set_option maxHeartbeats 400000
local macro_rules
  | `(tactic| simp! only [$as,*]) => `(tactic| simp only [Z.gt0, Z.gt1, Z.gt2, Z.gt3, Z.gt4, Z.gt5, Z.gt6, Z.gt7, Z.gt8, Z.gt9, Z.gt10, Z.gt11, Z.gt12, Z.gt13, Z.gt14, Z.gt15, Z.gt16, Z.gt17, Z.gt18, Z.gt19, Z.gt20, Z.gt21, Z.gt22, Z.gt23, Z.gt24, Z.gt25, Z.st0, Z.st1, Z.st2, Z.st3, Z.st4, Z.st5, Z.st6, Z.st7, Z.st8, Z.st9, Z.st10, Z.st11, Z.st12, Z.st13, Z.st14, Z.st15, Z.st16, Z.st17, Z.st18, Z.st19, Z.st20, Z.st21, Z.st22, Z.st23, Z.st24, Z.st25, Z.z0, Z.z1, Z.z2, Z.z3, Z.z4, Z.z5, Z.z6, Z.z7, Z.z8, Z.z9, Z.z10, Z.z11, Z.z12, Z.z13, Z.z14, Z.z15, Z.z16, Z.z17, Z.z18, Z.z19, Z.z20, Z.z21, Z.z22, Z.z23, Z.z24, Z.z25, Z.z26, Z.z27, Z.z28, Z.z29, Z.z30, Z.z31, Z.z32, Z.z33, Z.z34, Z.z35, Z.z36, Z.z37, Z.z38, Z.z39, Z.z40, Z.z41, Z.z42, Z.z43, Z.z44, Z.z45, Z.z46, Z.z47, Z.z48, Z.z49, Z.z50, Z.z51, Z.z52, Z.z53, Z.z54, Z.z55, Z.z56, Z.z57, Z.z58, Z.z59, Z.z60, Z.z61, Z.z62, Z.z63, Z.z64, Z.z65, Z.z66, Z.z67, Z.z68, Z.z69, Z.z70, Z.z71, Z.z72, Z.z73, Z.z74, Z.z75, Z.z76, Z.z77, Z.z78, Z.z79, Z.z80, Z.z81, Z.z82, Z.z83, Z.z84, Z.z85, Z.z86, Z.z87, Z.z88, Z.z89, Z.z90, Z.z91, Z.z92, Z.z93, Z.z94, Z.z95, Z.z96, Z.z97, Z.z98, Z.z99, Z.z100, Z.z101, Z.z102, Z.z103, Z.z104, Z.z105, Z.z106, Z.z107, Z.z108, Z.z109, Z.z110, Z.z_sub, Z.z112, Z.z113, Z.z114, Z.z115, Z.z116, Z.z117, Z.z118, Z.z119, Z.z120, Z.z121, Z.z122, Z.z123, Z.z124, Z.z125, Z.z126, Z.z127, Z.z128, Z.z129, Z.z130, Z.z131, Z.z132, Z.z133, Z.z134, Z.z135, Z.z136, Z.z137, Z.z138, Z.z139, Z.z140, Z.z141, Z.z_atK, Z.z143, Z.z144, Z.z145, Z.z146, Z.z147, Z.z148, Z.z149, Z.z150, Z.z151, Z.z152, Z.z153, Z.z154, Z.z155, Z.z156, Z.z157, Z.z158, Z.z159, Z.z160, Z.z161, Z.z162, Z.z163, Z.z164, Z.z165, Z.z166, Z.z167, Z.z168, Z.z169, Z.z170, Z.z171, Z.z172, Z.z173, Z.z174, Z.z175, Z.z176, Z.z177, Z.z178, Z.z179, Z.z180, Z.z181, Z.z182, Z.z183, Z.z184, Z.z185, Z.z186, Z.z187, Z.z188, Z.z189, Z.z190, Z.z191, Z.z192, Z.z193, Z.z194, Z.z195, Z.z196, Z.z197, Z.z198, Z.z199, Z.z200, Z.z201, Z.z202, Z.z203, Z.z204, Z.z205, Z.z206, Z.z207, Z.z208, Z.z209, Z.z210, Z.z211, Z.z212, Z.z213, Z.z214, Z.z215, Z.z216, Z.z217, Z.z218, Z.z219, Z.z220, Z.z221, Z.z222, Z.z223, Z.z224, Z.z225, Z.z226, Z.z227, Z.z228, Z.z229, Z.z230, Z.z231, Z.z232, Z.z233, Z.z234, Z.z235, Z.z236, Z.z237, Z.z238, Z.z239, Z.z240, Z.z241, Z.z242, Z.z245, Z.z246, Z.z247, Z.z248, Z.z249, Z.z250, Z.z251, Z.z252, Z.z253, Z.z254, Z.z255, Z.z256, Z.z257, Z.z258, Z.z259, Z.z260, Z.z261, Z.z262, Z.z263, Z.z264, Z.z265, Z.z266, Z.z267, Z.z268, Z.z269, Z.z270, Z.z271, Z.z272, Z.z273, Z.z274, Z.z277, Z.z278, Z.z279, Z.z280, Z.z281, Z.z282, Z.z283, Z.z284, Z.z285, Z.z286, Z.z287, Z.z288, Z.z289, Z.z290, Z.z291, Z.z292, Z.z293, Z.z294, Z.z295, Z.z296, Z.z297, Z.z298, Z.z299, Z.z300, Z.z301, Z.z302, Z.z303, Z.z304, Z.z305, Z.z306, Z.z307, Z.z308, Z.z309, Z.z310, Z.z311, Z.z312, Z.z313, Z.z314, Z.z315, Z.z316, Z.z317, Z.z318, Z.z319, Z.z320, Z.z321, Z.z322, Z.z323, Z.z324, Z.z325, Z.z326, Z.z327, Z.z328, Z.z329, Z.z330, Z.z331, Z.z332, Z.z333, Z.z334, Z.z335, Z.z336, Z.z337, Z.z338, Z.z339, Z.z340, Z.z341, Z.z342, Z.z343, Z.z344, Z.z345, Z.z346, Z.z347, List.length_map, List.length_append, List.length_cons, List.length_nil, List.map_cons, List.map_nil, List.nil_append, List.cons_append, List.append_nil, List.length_replicate, List.replicate_succ, List.replicate_zero, Nat.reduceSub, Nat.reduceAdd, Nat.reduceLeDiff, Nat.le_refl, true_and, and_true, Bool.not_true, Bool.not_false, Bool.not_not, decide_true, decide_false, Option.isSome_some, Nat.zero_add, Nat.reduceLT, eq_self, true_or, or_true, List.reverse_cons, List.reverse_nil, List.length_reverse, Z.eqB_int, Z.eqB_li, Z.eqB_ti, Z.pd_int, Z.pd_li, Z.pd_ti, Z.okT_int, Z.okT_bool, Z.okT_str, Z.okT_list, Z.okT_tuple, Int.natCast_add, Int.cast_ofNat_Int, Int.toNat_natCast, Int.reduceNeg, Z.subI, Z.divI, Z.modI, Z.powI, Z.iteT, Z.iteF, List.isEmpty_map, $as,*])
  | `(tactic| simp! only [$as,*] at $h:ident) => `(tactic| simp only [Z.gt0, Z.gt1, Z.gt2, Z.gt3, Z.gt4, Z.gt5, Z.gt6, Z.gt7, Z.gt8, Z.gt9, Z.gt10, Z.gt11, Z.gt12, Z.gt13, Z.gt14, Z.gt15, Z.gt16, Z.gt17, Z.gt18, Z.gt19, Z.gt20, Z.gt21, Z.gt22, Z.gt23, Z.gt24, Z.gt25, Z.st0, Z.st1, Z.st2, Z.st3, Z.st4, Z.st5, Z.st6, Z.st7, Z.st8, Z.st9, Z.st10, Z.st11, Z.st12, Z.st13, Z.st14, Z.st15, Z.st16, Z.st17, Z.st18, Z.st19, Z.st20, Z.st21, Z.st22, Z.st23, Z.st24, Z.st25, Z.z0, Z.z1, Z.z2, Z.z3, Z.z4, Z.z5, Z.z6, Z.z7, Z.z8, Z.z9, Z.z10, Z.z11, Z.z12, Z.z13, Z.z14, Z.z15, Z.z16, Z.z17, Z.z18, Z.z19, Z.z20, Z.z21, Z.z22, Z.z23, Z.z24, Z.z25, Z.z26, Z.z27, Z.z28, Z.z29, Z.z30, Z.z31, Z.z32, Z.z33, Z.z34, Z.z35, Z.z36, Z.z37, Z.z38, Z.z39, Z.z40, Z.z41, Z.z42, Z.z43, Z.z44, Z.z45, Z.z46, Z.z47, Z.z48, Z.z49, Z.z50, Z.z51, Z.z52, Z.z53, Z.z54, Z.z55, Z.z56, Z.z57, Z.z58, Z.z59, Z.z60, Z.z61, Z.z62, Z.z63, Z.z64, Z.z65, Z.z66, Z.z67, Z.z68, Z.z69, Z.z70, Z.z71, Z.z72, Z.z73, Z.z74, Z.z75, Z.z76, Z.z77, Z.z78, Z.z79, Z.z80, Z.z81, Z.z82, Z.z83, Z.z84, Z.z85, Z.z86, Z.z87, Z.z88, Z.z89, Z.z90, Z.z91, Z.z92, Z.z93, Z.z94, Z.z95, Z.z96, Z.z97, Z.z98, Z.z99, Z.z100, Z.z101, Z.z102, Z.z103, Z.z104, Z.z105, Z.z106, Z.z107, Z.z108, Z.z109, Z.z110, Z.z_sub, Z.z112, Z.z113, Z.z114, Z.z115, Z.z116, Z.z117, Z.z118, Z.z119, Z.z120, Z.z121, Z.z122, Z.z123, Z.z124, Z.z125, Z.z126, Z.z127, Z.z128, Z.z129, Z.z130, Z.z131, Z.z132, Z.z133, Z.z134, Z.z135, Z.z136, Z.z137, Z.z138, Z.z139, Z.z140, Z.z141, Z.z_atK, Z.z143, Z.z144, Z.z145, Z.z146, Z.z147, Z.z148, Z.z149, Z.z150, Z.z151, Z.z152, Z.z153, Z.z154, Z.z155, Z.z156, Z.z157, Z.z158, Z.z159, Z.z160, Z.z161, Z.z162, Z.z163, Z.z164, Z.z165, Z.z166, Z.z167, Z.z168, Z.z169, Z.z170, Z.z171, Z.z172, Z.z173, Z.z174, Z.z175, Z.z176, Z.z177, Z.z178, Z.z179, Z.z180, Z.z181, Z.z182, Z.z183, Z.z184, Z.z185, Z.z186, Z.z187, Z.z188, Z.z189, Z.z190, Z.z191, Z.z192, Z.z193, Z.z194, Z.z195, Z.z196, Z.z197, Z.z198, Z.z199, Z.z200, Z.z201, Z.z202, Z.z203, Z.z204, Z.z205, Z.z206, Z.z207, Z.z208, Z.z209, Z.z210, Z.z211, Z.z212, Z.z213, Z.z214, Z.z215, Z.z216, Z.z217, Z.z218, Z.z219, Z.z220, Z.z221, Z.z222, Z.z223, Z.z224, Z.z225, Z.z226, Z.z227, Z.z228, Z.z229, Z.z230, Z.z231, Z.z232, Z.z233, Z.z234, Z.z235, Z.z236, Z.z237, Z.z238, Z.z239, Z.z240, Z.z241, Z.z242, Z.z245, Z.z246, Z.z247, Z.z248, Z.z249, Z.z250, Z.z251, Z.z252, Z.z253, Z.z254, Z.z255, Z.z256, Z.z257, Z.z258, Z.z259, Z.z260, Z.z261, Z.z262, Z.z263, Z.z264, Z.z265, Z.z266, Z.z267, Z.z268, Z.z269, Z.z270, Z.z271, Z.z272, Z.z273, Z.z274, Z.z277, Z.z278, Z.z279, Z.z280, Z.z281, Z.z282, Z.z283, Z.z284, Z.z285, Z.z286, Z.z287, Z.z288, Z.z289, Z.z290, Z.z291, Z.z292, Z.z293, Z.z294, Z.z295, Z.z296, Z.z297, Z.z298, Z.z299, Z.z300, Z.z301, Z.z302, Z.z303, Z.z304, Z.z305, Z.z306, Z.z307, Z.z308, Z.z309, Z.z310, Z.z311, Z.z312, Z.z313, Z.z314, Z.z315, Z.z316, Z.z317, Z.z318, Z.z319, Z.z320, Z.z321, Z.z322, Z.z323, Z.z324, Z.z325, Z.z326, Z.z327, Z.z328, Z.z329, Z.z330, Z.z331, Z.z332, Z.z333, Z.z334, Z.z335, Z.z336, Z.z337, Z.z338, Z.z339, Z.z340, Z.z341, Z.z342, Z.z343, Z.z344, Z.z345, Z.z346, Z.z347, List.length_map, List.length_append, List.length_cons, List.length_nil, List.map_cons, List.map_nil, List.nil_append, List.cons_append, List.append_nil, List.length_replicate, List.replicate_succ, List.replicate_zero, Nat.reduceSub, Nat.reduceAdd, Nat.reduceLeDiff, Nat.le_refl, true_and, and_true, Bool.not_true, Bool.not_false, Bool.not_not, decide_true, decide_false, Option.isSome_some, Nat.zero_add, Nat.reduceLT, eq_self, true_or, or_true, List.reverse_cons, List.reverse_nil, List.length_reverse, Z.eqB_int, Z.eqB_li, Z.eqB_ti, Z.pd_int, Z.pd_li, Z.pd_ti, Z.okT_int, Z.okT_bool, Z.okT_str, Z.okT_list, Z.okT_tuple, Int.natCast_add, Int.cast_ofNat_Int, Int.toNat_natCast, Int.reduceNeg, Z.subI, Z.divI, Z.modI, Z.powI, Z.iteT, Z.iteF, List.isEmpty_map, $as,*] at $h:ident)
namespace LK
open Z
theorem cut_last' (xs : List Int) (L : Nat) : cut (xs.map D.int) (some (if ((xs.length : Int) - (L : Int)) > 0 then ((xs.length : Int) - (L : Int)) else 0)) none = (xs.drop (xs.length - L)).map .int := by
  rw [cut_map, cut_from _ (by split <;> omega)]
  congr 2; split <;> omega
theorem cutF_drop {xs : List Int} {L : Nat} (h : xs.length ≤ L + 1) : xs.drop (xs.length - L) = cutF xs L := by
  unfold cutF
  by_cases e : xs.length = L + 1
  · rw [if_pos e, e, show L + 1 - L = 1 by omega]
    cases xs with
    | nil => cases e
    | cons x xs => rfl
  · rw [if_neg e, show xs.length - L = 0 by omega]; rfl
theorem fits_le {xs : List Int} {L : Nat} (hL : 1 ≤ L) (h : fitsF xs L = true) : xs.length ≤ L := by
  unfold fitsF at h
  rw [Bool.and_eq_true] at h
  have h2 := h.2
  by_cases e : headI xs = -1
  · rw [if_pos e, Bool.and_eq_true] at h2
    have := of_decide_eq_true h2.1
    omega
  · rw [if_neg e, Bool.and_eq_true] at h2
    have := of_decide_eq_true h2.1
    omega
theorem okV_len {xs : List Int} (h : okV (ti xs)) : xs.length ≤ 1000 := by
  have := (h.2 _ rfl).2
  rwa [List.length_map] at this
theorem cutF_le {xs : List Int} {L : Nat} (h : xs.length ≤ 1000) : (cutF xs L).length ≤ 1000 := by
  unfold cutF; split
  · rw [List.length_tail]; omega
  · exact h
theorem s_bends {xs ts : List Int} {L : Nat} {R Ed} (hx : Dr xs) (hl : ∀ x ∈ ts, Let x) (h60 : ts.length ≤ 60) (hL : 2 ≤ L) (hL2 : L ≤ 69) (h : ∀ zs, Dr zs → R 0 (.bl true) [li zs, li ts, .int L]) : sp__law_bends_right [li xs, li ts, .int L] R Ed := by
  refine ⟨?_⟩
  simp! only [w__law_bends_right]
  refine s_lw h60 hL (by omega) ?_
  simp! only []
  refine ⟨small_n (by decide) (by decide), ?_⟩
  refine for_inv (fun items ρ => ∃ zs s4 s5 s6 s7 s8, Dr zs ∧ ρ = [some (1, li zs), some (0, li ts), some (0, .int L), some (1, .lst (Wl ts L)), s4, s5, s6, s7, s8]) ⟨xs, none, none, none, none, none, hx, rfl⟩ ?_ ?_
  · rintro ρ ⟨zs, s4, s5, s6, s7, s8, dz, rfl⟩
    simp! only []
    exact h zs dz
  · rintro x xs2 ρ K ⟨zs, s4, s5, s6, s7, s8, dz, rfl⟩ hk
    have fin : ∀ zs s4 s5 s6 s7 s8, Dr zs → K [some (1, li zs), some (0, li ts), some (0, .int L), some (1, .lst (Wl ts L)), s4, s5, s6, s7, s8] := fun zs s4 s5 s6 s7 s8 dz => hk _ ⟨zs, s4, s5, s6, s7, s8, dz, rfl⟩
    have hwl : (Wl ts L).length = ts.length + 1 := W_len
    simp! only []
    refine s_take (m := 16) dz (by decide) fun r1 z1 a1 b1 d1 => ?_
    simp! only []
    refine ⟨cmulL (by omega) (by omega), ?_⟩
    refine s_take (m := 16) d1 (by decide) fun r2 z2 a2 b2 d2 => ?_
    simp! only [List.length_range]
    refine ⟨by omega, ?_⟩
    have hm0 : 0 ≤ (r1 * 16 + r2) % ((ts.length : Int) + 1) := Int.emod_nonneg _ (by omega)
    have hm1 : (r1 * 16 + r2) % ((ts.length : Int) + 1) < ((ts.length : Int) + 1) := Int.emod_lt_of_pos _ (by omega)
    obtain ⟨b, hb⟩ := Int.eq_ofNat_of_zero_le hm0
    have hb2 : b ≤ ts.length := by omega
    rw [W_at (b := b) hb (by omega)]
    simp! only []
    refine s_bent d2 (by rw [win_length hb2]; omega) (by rw [win_length hb2]; omega) fun n d z3 d3 ok => ?_
    simp! only []
    refine s_ldue ok hL ?_
    simp! only []
    refine s_fitsD ok hL (by omega) ?_
    simp! only [eqB_bl]
    refine ⟨rfl, rfl, ?_⟩
    have tail : ∀ (T : DEnds) (hn : ∀ zs s4 s5 s6 s7 s8, Dr zs → T.nx [some (1, li zs), some (0, li ts), some (0, .int L), some (1, .lst (Wl ts L)), s4, s5, s6, s7, s8]) (s4 s6 s7 s8 : Slot), (wSeq (wAsg (.nm 8) (wCall [0, 0, 0] sp__law_ask (wCons (wC (.int 2)) (wCons (wV 5) (wCons (wV 2) (wNil)))))) (wIfS (wNotT (wTru (wCall [0, 0] sp__law_due_fits (w2 (wV 5) (wE (on2 addD) (w2 (wV 2) (wC (.int 1)))))))) (wIfS (wB (wS (on2V neD) (w2 (wV 8) (wTup (w2 (wC (.str "window")) (wS (on1V negD) (w1 (wC (.int 1))))))))) (wRet (wC (.bl false))) (wNext)) (wIfS (wOrT (wB (wS (on2V neD) (w2 (wE (on2 ixD) (w2 (wV 8) (wC (.int 0)))) (wC (.str "told"))))) (wNotT (wTru (wCall [0, 0] sp__law_signs (w2 (wE (on2 ixD) (w2 (wV 8) (wC (.int 1)))) (wE rSlL (w2 (wV 5) (wInt (wS (on2V max2D) (w2 (wC (.int 0)) (wE (on2 subD) (w2 (wS (on1V lenD) (w1 (wV 5))) (wV 2))))))))))))) (wRet (wC (.bl false))) (wNext)))) T [some (1, li z3), some (0, li ts), some (0, .int L), some (1, .lst (Wl ts L)), s4, some (0, d), s6, s7, s8] := by
      intro T hn s4 s6 s7 s8
      simp! only []
      by_cases hg : fitsD d (L + 1) = true
      · obtain ⟨ws, rfl, w2, hF⟩ := fitsD_true hg
        refine ask2_ok (okV_len ok) hg hL hL2 ?_
        simp! only []
        refine s_ldue' (L := L + 1) rfl ok (by omega) ?_
        simp! only [hg]
        have e1 : L2.atI [D.str "told", ti (cutF ws L)] 0 = some (.str "told") := rfl
        have e2 : L2.atI [D.str "told", ti (cutF ws L)] 1 = some (ti (cutF ws L)) := rfl
        simp! only [e1, e2, cut_last', cutF_drop (fits_le (by omega) hF), eqB_str]
        refine ⟨by decide +kernel, by decide +kernel, ?_⟩
        refine s_lsigns .t (cutF_le (okV_len ok)) ?_
        simp! only []
        exact hn _ _ _ _ _ _ d3
      · have hg' : fitsD d (L + 1) = false := Bool.eq_false_iff.mpr hg
        refine ask2_no ok hg' hL hL2 ?_
        simp! only []
        refine s_ldue' (L := L + 1) rfl ok (by omega) ?_
        have ew : eqB winX winX = true := by decide +kernel
        simp! only [hg', pd_winX, ew]
        exact hn _ _ _ _ _ _ d3
    simp! only [] at tail
    by_cases hf : fitsD d L = true
    · obtain ⟨ws, rfl, w2, hF⟩ := fitsD_true hf
      simp! only [hf]
      refine ask0_ok (okV_len ok) hf hL (by omega) ?_
      have e2 : ∀ d, L2.atI [D.str "told", d] 1 = some d := fun _ => rfl
      simp! only [e2, cut_init]
      refine s_lsigns .t (by rw [List.length_dropLast]; have := okV_len ok; omega) ?_
      simp! only []
      refine ask1_ok (okV_len ok) w2 hf hL (by omega) ?_
      simp! only [e2]
      refine s_lhead w2 (okV_len ok) hL ?_
      simp! only []
      refine s_lsigns .t (by unfold hdF; split; decide; rw [List.length_drop]; have := okV_len ok; omega) ?_
      simp! only []
      exact tail (lpE _ K) fin _ _ _ _
    · have hf' : fitsD d L = false := Bool.eq_false_iff.mpr hf
      simp! only [hf']
      refine ask0_no ok hf' hL (by omega) ?_
      have ew : eqB winX winX = true := by decide +kernel
      simp! only [pd_winX, ew]
      refine ask1_no ok hf' hL (by omega) ?_
      simp! only [pd_winX, ew]
      exact tail (lpE _ K) fin _ _ _ _
end LK

set_option Elab.async false
set_option linter.all false
set_option maxRecDepth 100000
set_option maxHeartbeats 400000
namespace LK
open Z
theorem s_text' {xs : List Int} {L : Nat} {i : Int} {R Ed} (hi : i = L) (hx : Dr xs) (hL : 2 ≤ L) (hL7 : L ≤ 7) (h : ∀ ys zs, Dr zs → Lt ys → ys.length ≤ 14 → R 1 (li ys) [li zs, .int i]) : sp__law_text [li xs, .int i] R Ed := by
  subst hi; exact s_text hx hL hL7 h
theorem lt_let {ys : List Int} (h : Lt ys) : ∀ x ∈ ys, Let x := fun x hx => ⟨(h x hx).1, by have := (h x hx).2; omega⟩
theorem law_pure (ns : List Int) (h : ns.length ≤ 63) : sp_law [.scr (ns.map D.int)] (fun _ d _ => d = .bl true) fun _ _ => False := by
  refine ⟨?_⟩
  have b3 : ∀ (z ts : List Int) (p i : Int) (n : Nat) (L : Nat), i = L → Dr z → (∀ x ∈ ts, Let x) → ts.length ≤ 60 → 2 ≤ L → L ≤ 69 → (wSeq (wIfS (wOrT (wNotT (wTru (wCall [0, 0] sp__law_windows_right (w2 (wV 4) (wV 3))))) (wNotT (wTru (wCall [0, 0] sp__law_longer_right (w2 (wV 4) (wV 3)))))) (wRet (wC (.bl false))) (wNext)) (wSeq (wIfS (wOrT (wNotT (wTru (wCall [1, 0, 0] sp__law_bends_right (wCons (wV 1) (wCons (wV 4) (wCons (wV 3) (wNil))))))) (wNotT (wTru (wCall [1] sp__law_letters_right (w1 (wV 1)))))) (wRet (wC (.bl false))) (wNext)) (wRet (wCall [1, 0, 0] sp__law_refusals_right (wCons (wV 1) (wCons (wV 4) (wCons (wV 3) (wNil)))))))) (defEnds [0] [.scr (ns.map D.int)] (fun _ d _ => d = .bl true) fun _ _ => False) [some (0, .scr (ns.map D.int)), some (1, li z), some (0, .int p), some (0, .int i), some (n, li ts)] := by
    intro z ts p i n L hi dz hl h60 hL hL2
    subst hi
    simp! only []
    refine s_wright hl h60 hL (by omega) ?_
    simp! only []
    refine s_longer hl h60 hL hL2 ?_
    simp! only []
    refine s_bends dz hl h60 hL hL2 fun z2 d2 => ?_
    simp! only []
    refine s_lright d2 fun z3 d3 => ?_
    simp! only []
    refine s_refuse d3 hl h60 hL hL2 fun z4 d4 => ?_
    simp! only []
  have b2 : ∀ (z ts : List Int) (p i : Int) (n : Nat) (L : Nat), i = L → Dr z → (∀ x ∈ ts, Let x) → ts.length ≤ 60 → 2 ≤ L → L ≤ 69 → (wSeq (wIfS (wB (wS (on2V geD) (w2 (wV 2) (wC (.int 12))))) (wAsg (.nm 3) (wE (on2 addD) (w2 (wC (.int 2)) (wE (on2 modD) (w2 (wS (on1V int1D) (w1 (wE (on2 addD) (w2 (wE (on2 mulD) (w2 (wCall [1, 0] sp__law_take (w2 (wV 1) (wC (.int 16)))) (wC (.int 16)))) (wCall [1, 0] sp__law_take (w2 (wV 1) (wC (.int 16)))))))) (wC (.int 68))))))) (wNext)) (wSeq (wIfS (wOrT (wNotT (wTru (wCall [0, 0] sp__law_windows_right (w2 (wV 4) (wV 3))))) (wNotT (wTru (wCall [0, 0] sp__law_longer_right (w2 (wV 4) (wV 3)))))) (wRet (wC (.bl false))) (wNext)) (wSeq (wIfS (wOrT (wNotT (wTru (wCall [1, 0, 0] sp__law_bends_right (wCons (wV 1) (wCons (wV 4) (wCons (wV 3) (wNil))))))) (wNotT (wTru (wCall [1] sp__law_letters_right (w1 (wV 1)))))) (wRet (wC (.bl false))) (wNext)) (wRet (wCall [1, 0, 0] sp__law_refusals_right (wCons (wV 1) (wCons (wV 4) (wCons (wV 3) (wNil))))))))) (defEnds [0] [.scr (ns.map D.int)] (fun _ d _ => d = .bl true) fun _ _ => False) [some (0, .scr (ns.map D.int)), some (1, li z), some (0, .int p), some (0, .int i), some (n, li ts)] := by
    intro z ts p i n L hi dz hl h60 hL hL2
    generalize (wSeq (wIfS (wOrT (wNotT (wTru (wCall [0, 0] sp__law_windows_right (w2 (wV 4) (wV 3))))) (wNotT (wTru (wCall [0, 0] sp__law_longer_right (w2 (wV 4) (wV 3)))))) (wRet (wC (.bl false))) (wNext)) (wSeq (wIfS (wOrT (wNotT (wTru (wCall [1, 0, 0] sp__law_bends_right (wCons (wV 1) (wCons (wV 4) (wCons (wV 3) (wNil))))))) (wNotT (wTru (wCall [1] sp__law_letters_right (w1 (wV 1)))))) (wRet (wC (.bl false))) (wNext)) (wRet (wCall [1, 0, 0] sp__law_refusals_right (wCons (wV 1) (wCons (wV 4) (wCons (wV 3) (wNil)))))))) = rest at b3 ⊢
    simp! only []
    by_cases e : 12 ≤ p
    · simp! only [e]
      refine s_take (m := 16) dz (by decide) fun r1 z1 a1 b1 d1 => ?_
      simp! only []
      refine ⟨cmulL (by omega) (by omega), ?_⟩
      refine s_take (m := 16) d1 (by decide) fun r2 z2 a2 b2 d2 => ?_
      simp! only []
      refine ⟨by omega, ?_⟩
      have m0 : 0 ≤ (r1 * 16 + r2) % 68 := Int.emod_nonneg _ (by decide)
      have m1 : (r1 * 16 + r2) % 68 < 68 := Int.emod_lt_of_pos _ (by decide)
      obtain ⟨b, hb⟩ := Int.eq_ofNat_of_zero_le m0
      exact b3 z2 ts p (2 + (r1 * 16 + r2) % 68) n (2 + b) (by omega) d2 hl h60 (by omega) (by omega)
    · simp! only [e]
      exact b3 z ts p i n L hi dz hl h60 hL hL2
  have b1 : ∀ (z ts : List Int) (p i : Int) (L : Nat), i = L → Dr z → Lt ts → ts.length ≤ 14 → 2 ≤ L → L ≤ 7 → (wSeq (wIfS (wB (wS (on2V eqD) (w2 (wV 2) (wC (.int 15))))) (wAsg (.nm 4) (wE rSlH (w2 (wE (on2 mulD) (w2 (wE (on2 addD) (w2 (wV 4) (wLst (w1 (wE (on2 mulD) (w2 (wC (.int 6)) (wCall [1, 0] sp__law_take (w2 (wV 1) (wC (.int 16)))))))))) (wC (.int 60)))) (wInt (wC (.int 60)))))) (wNext)) (wSeq (wIfS (wB (wS (on2V geD) (w2 (wV 2) (wC (.int 12))))) (wAsg (.nm 3) (wE (on2 addD) (w2 (wC (.int 2)) (wE (on2 modD) (w2 (wS (on1V int1D) (w1 (wE (on2 addD) (w2 (wE (on2 mulD) (w2 (wCall [1, 0] sp__law_take (w2 (wV 1) (wC (.int 16)))) (wC (.int 16)))) (wCall [1, 0] sp__law_take (w2 (wV 1) (wC (.int 16)))))))) (wC (.int 68))))))) (wNext)) (wSeq (wIfS (wOrT (wNotT (wTru (wCall [0, 0] sp__law_windows_right (w2 (wV 4) (wV 3))))) (wNotT (wTru (wCall [0, 0] sp__law_longer_right (w2 (wV 4) (wV 3)))))) (wRet (wC (.bl false))) (wNext)) (wSeq (wIfS (wOrT (wNotT (wTru (wCall [1, 0, 0] sp__law_bends_right (wCons (wV 1) (wCons (wV 4) (wCons (wV 3) (wNil))))))) (wNotT (wTru (wCall [1] sp__law_letters_right (w1 (wV 1)))))) (wRet (wC (.bl false))) (wNext)) (wRet (wCall [1, 0, 0] sp__law_refusals_right (wCons (wV 1) (wCons (wV 4) (wCons (wV 3) (wNil)))))))))) (defEnds [0] [.scr (ns.map D.int)] (fun _ d _ => d = .bl true) fun _ _ => False) [some (0, .scr (ns.map D.int)), some (1, li z), some (0, .int p), some (0, .int i), some (1, li ts)] := by
    intro z ts p i L hi dz hl h14 hL hL2
    generalize (wSeq (wIfS (wB (wS (on2V geD) (w2 (wV 2) (wC (.int 12))))) (wAsg (.nm 3) (wE (on2 addD) (w2 (wC (.int 2)) (wE (on2 modD) (w2 (wS (on1V int1D) (w1 (wE (on2 addD) (w2 (wE (on2 mulD) (w2 (wCall [1, 0] sp__law_take (w2 (wV 1) (wC (.int 16)))) (wC (.int 16)))) (wCall [1, 0] sp__law_take (w2 (wV 1) (wC (.int 16)))))))) (wC (.int 68))))))) (wNext)) (wSeq (wIfS (wOrT (wNotT (wTru (wCall [0, 0] sp__law_windows_right (w2 (wV 4) (wV 3))))) (wNotT (wTru (wCall [0, 0] sp__law_longer_right (w2 (wV 4) (wV 3)))))) (wRet (wC (.bl false))) (wNext)) (wSeq (wIfS (wOrT (wNotT (wTru (wCall [1, 0, 0] sp__law_bends_right (wCons (wV 1) (wCons (wV 4) (wCons (wV 3) (wNil))))))) (wNotT (wTru (wCall [1] sp__law_letters_right (w1 (wV 1)))))) (wRet (wC (.bl false))) (wNext)) (wRet (wCall [1, 0, 0] sp__law_refusals_right (wCons (wV 1) (wCons (wV 4) (wCons (wV 3) (wNil))))))))) = rest at b2 ⊢
    simp! only []
    by_cases e : p = 15
    · simp! only [e]
      refine s_take (m := 16) dz (by decide) fun r z2 a2 b2' d2 => ?_
      simp! only []
      refine ⟨.inl ⟨by decide, by decide⟩, by omega, ?_⟩
      have l1 : Ld 15 (ts.map D.int ++ [D.int (6 * r)]) := ⟨ts ++ [6 * r], by rw [List.map_append]; rfl, fun y hy => (List.mem_append.mp hy).elim (hl y) fun q => by rw [List.mem_singleton.mp q]; exact ⟨by omega, by omega⟩, by rw [List.length_append]; show ts.length + 1 ≤ 15; omega⟩
      have l2 : Ld 900 (List.replicate (60 : Int).toNat (ts.map D.int ++ [D.int (6 * r)])).flatten := (l1.rep _).up (by decide)
      obtain ⟨us, eu, hu, _⟩ := l2
      have ec : cut (List.replicate (60 : Int).toNat (ts.map D.int ++ [D.int (6 * r)])).flatten none (some 60) = (us.take 60).map .int := by rw [eu, cut_map, cut_to _ (by decide)]; rfl
      rw [ec]
      refine ⟨by decide, by decide, by have e : (60 : Int).toNat = 60 := rfl; rw [e]; omega, ?_⟩
      exact b2 z2 (us.take 60) 15 i _ L hi d2 (fun x hx => lt_let hu x (List.mem_of_mem_take hx)) (by rw [List.length_take]; omega) hL (by omega)
    · simp! only [e]
      exact b2 z ts p i 1 L hi dz (lt_let hl) (by omega) hL (by omega)
  unfold w_law
  generalize (wSeq (wIfS (wB (wS (on2V eqD) (w2 (wV 2) (wC (.int 15))))) (wAsg (.nm 4) (wE rSlH (w2 (wE (on2 mulD) (w2 (wE (on2 addD) (w2 (wV 4) (wLst (w1 (wE (on2 mulD) (w2 (wC (.int 6)) (wCall [1, 0] sp__law_take (w2 (wV 1) (wC (.int 16)))))))))) (wC (.int 60)))) (wInt (wC (.int 60)))))) (wNext)) (wSeq (wIfS (wB (wS (on2V geD) (w2 (wV 2) (wC (.int 12))))) (wAsg (.nm 3) (wE (on2 addD) (w2 (wC (.int 2)) (wE (on2 modD) (w2 (wS (on1V int1D) (w1 (wE (on2 addD) (w2 (wE (on2 mulD) (w2 (wCall [1, 0] sp__law_take (w2 (wV 1) (wC (.int 16)))) (wC (.int 16)))) (wCall [1, 0] sp__law_take (w2 (wV 1) (wC (.int 16)))))))) (wC (.int 68))))))) (wNext)) (wSeq (wIfS (wOrT (wNotT (wTru (wCall [0, 0] sp__law_windows_right (w2 (wV 4) (wV 3))))) (wNotT (wTru (wCall [0, 0] sp__law_longer_right (w2 (wV 4) (wV 3)))))) (wRet (wC (.bl false))) (wNext)) (wSeq (wIfS (wOrT (wNotT (wTru (wCall [1, 0, 0] sp__law_bends_right (wCons (wV 1) (wCons (wV 4) (wCons (wV 3) (wNil))))))) (wNotT (wTru (wCall [1] sp__law_letters_right (w1 (wV 1)))))) (wRet (wC (.bl false))) (wNext)) (wRet (wCall [1, 0, 0] sp__law_refusals_right (wCons (wV 1) (wCons (wV 4) (wCons (wV 3) (wNil)))))))))) = rest at b1 ⊢
  simp! only []
  refine s_draws h fun ys dy => ?_
  simp! only []
  refine s_take (m := 16) dy (by decide) fun p z1 p0 p1 d1 => ?_
  simp! only []
  refine s_take (m := 6) d1 (by decide) fun r z2 a2 b2' d2 => ?_
  simp! only []
  obtain ⟨k, hk⟩ := Int.eq_ofNat_of_zero_le a2
  refine s_text' (L := 2 + k) (by omega) d2 (by omega) (by omega) fun ts z3 d3 e3 f3 => ?_
  simp! only []
  exact b1 z3 ts p (2 + r) (2 + k) (by omega) d3 e3 f3 (by omega) (by omega)
end LK

set_option Elab.async false
set_option linter.all false
set_option maxRecDepth 100000
set_option maxHeartbeats 0
namespace LK
open PySem PySem.Spec PyProof.Rows L2 Z
def d_is_int : He.DefD := ⟨("is_int", none), "is_int", "is_int", defArgs (top 7), defBody (top 7), defScope (top 7), [], []⟩
def d_check_number : He.DefD := ⟨("check_number", none), "check_number", "check_number", defArgs (top 8), defBody (top 8), defScope (top 8), [], []⟩
def d_is_letter : He.DefD := ⟨("is_letter", none), "is_letter", "is_letter", defArgs (top 12), defBody (top 12), defScope (top 12), [], []⟩
def d_row_of : He.DefD := ⟨("row_of", none), "row_of", "row_of", defArgs (top 14), defBody (top 14), defScope (top 14), [], []⟩
def d_check_text : He.DefD := ⟨("check_text", none), "check_text", "check_text", defArgs (top 16), defBody (top 16), defScope (top 16), [], []⟩
def d_signs_of : He.DefD := ⟨("signs_of", none), "signs_of", "signs_of", defArgs (top 17), defBody (top 17), defScope (top 17), [], []⟩
def d__node : He.DefD := ⟨("_node", none), "_node", "_node", defArgs (top 19), defBody (top 19), defScope (top 19), [], []⟩
def d_node_behind : He.DefD := ⟨("node_behind", none), "node_behind", "node_behind", defArgs (top 20), defBody (top 20), defScope (top 20), [], []⟩
def d_window_of : He.DefD := ⟨("window_of", none), "window_of", "window_of", defArgs (top 21), defBody (top 21), defScope (top 21), [], []⟩
def d_windows : He.DefD := ⟨("windows", none), "windows", "windows", defArgs (top 22), defBody (top 22), defScope (top 22), [], []⟩
def d_fits : He.DefD := ⟨("fits", none), "fits", "fits", defArgs (top 23), defBody (top 23), defScope (top 23), [], []⟩
def d_tail_of : He.DefD := ⟨("tail_of", none), "tail_of", "tail_of", defArgs (top 24), defBody (top 24), defScope (top 24), [], []⟩
def d_head_of : He.DefD := ⟨("head_of", none), "head_of", "head_of", defArgs (top 25), defBody (top 25), defScope (top 25), [], []⟩
def d_cut_window : He.DefD := ⟨("cut_window", none), "cut_window", "cut_window", defArgs (top 26), defBody (top 26), defScope (top 26), [], []⟩
def d__law_draws : He.DefD := ⟨("_law_draws", none), "_law_draws", "_law_draws", defArgs (top 28), defBody (top 28), defScope (top 28), [], []⟩
def d__law_take : He.DefD := ⟨("_law_take", none), "_law_take", "_law_take", defArgs (top 29), defBody (top 29), defScope (top 29), [], []⟩
def d__law_int : He.DefD := ⟨("_law_int", none), "_law_int", "_law_int", defArgs (top 30), defBody (top 30), defScope (top 30), [], []⟩
def d__law_letters : He.DefD := ⟨("_law_letters", none), "_law_letters", "_law_letters", defArgs (top 31), defBody (top 31), defScope (top 31), [], []⟩
def d__law_row : He.DefD := ⟨("_law_row", none), "_law_row", "_law_row", defArgs (top 32), defBody (top 32), defScope (top 32), [], []⟩
def d__law_chain : He.DefD := ⟨("_law_chain", none), "_law_chain", "_law_chain", defArgs (top 33), defBody (top 33), defScope (top 33), [], []⟩
def d__law_parted : He.DefD := ⟨("_law_parted", none), "_law_parted", "_law_parted", defArgs (top 34), defBody (top 34), defScope (top 34), [], []⟩
def d__law_closed : He.DefD := ⟨("_law_closed", none), "_law_closed", "_law_closed", defArgs (top 35), defBody (top 35), defScope (top 35), [], []⟩
def d__law_made : He.DefD := ⟨("_law_made", none), "_law_made", "_law_made", defArgs (top 37), defBody (top 37), defScope (top 37), [], []⟩
def d__law_text : He.DefD := ⟨("_law_text", none), "_law_text", "_law_text", defArgs (top 36), defBody (top 36), defScope (top 36), [], []⟩
def d__law_windows : He.DefD := ⟨("_law_windows", none), "_law_windows", "_law_windows", defArgs (top 38), defBody (top 38), defScope (top 38), [], []⟩
def d__law_head : He.DefD := ⟨("_law_head", none), "_law_head", "_law_head", defArgs (top 39), defBody (top 39), defScope (top 39), [], []⟩
def d__law_node : He.DefD := ⟨("_law_node", none), "_law_node", "_law_node", defArgs (top 40), defBody (top 40), defScope (top 40), [], []⟩
def d__law_due_fits : He.DefD := ⟨("_law_due_fits", none), "_law_due_fits", "_law_due_fits", defArgs (top 41), defBody (top 41), defScope (top 41), [], []⟩
def d__law_signs : He.DefD := ⟨("_law_signs", none), "_law_signs", "_law_signs", defArgs (top 42), defBody (top 42), defScope (top 42), [], []⟩
def d__law_ask : He.DefD := ⟨("_law_ask", none), "_law_ask", "_law_ask", defArgs (top 43), defBody (top 43), defScope (top 43), [], []⟩
def d__law_named : He.DefD := ⟨("_law_named", none), "_law_named", "_law_named", defArgs (top 44), defBody (top 44), defScope (top 44), [], []⟩
def d__law_windows_right : He.DefD := ⟨("_law_windows_right", none), "_law_windows_right", "_law_windows_right", defArgs (top 45), defBody (top 45), defScope (top 45), [], []⟩
def d__law_longer_right : He.DefD := ⟨("_law_longer_right", none), "_law_longer_right", "_law_longer_right", defArgs (top 46), defBody (top 46), defScope (top 46), [], []⟩
def d__law_bent : He.DefD := ⟨("_law_bent", none), "_law_bent", "_law_bent", defArgs (top 47), defBody (top 47), defScope (top 47), [], []⟩
def d__law_bends_right : He.DefD := ⟨("_law_bends_right", none), "_law_bends_right", "_law_bends_right", defArgs (top 48), defBody (top 48), defScope (top 48), [], []⟩
def d__law_letters_right : He.DefD := ⟨("_law_letters_right", none), "_law_letters_right", "_law_letters_right", defArgs (top 49), defBody (top 49), defScope (top 49), [], []⟩
def d__law_refusals_right : He.DefD := ⟨("_law_refusals_right", none), "_law_refusals_right", "_law_refusals_right", defArgs (top 50), defBody (top 50), defScope (top 50), [], []⟩
def d_law : He.DefD := ⟨("law", none), "law", "law", defArgs (top 51), defBody (top 51), defScope (top 51), [], []⟩
def d_BadNumber___init__ : He.DefD := ⟨("BadNumber", some "__init__"), "__init__", "BadNumber.__init__", defArgs (inClass (top 2) 0), defBody (inClass (top 2) 0), defScope (inClass (top 2) 0), [], []⟩
def d_BadText___init__ : He.DefD := ⟨("BadText", some "__init__"), "__init__", "BadText.__init__", defArgs (inClass (top 3) 0), defBody (inClass (top 3) 0), defScope (inClass (top 3) 0), [], []⟩
def d_BadWindow___init__ : He.DefD := ⟨("BadWindow", some "__init__"), "__init__", "BadWindow.__init__", defArgs (inClass (top 4) 0), defBody (inClass (top 4) 0), defScope (inClass (top 4) 0), [], []⟩
def d_TooLarge___init__ : He.DefD := ⟨("TooLarge", some "__init__"), "__init__", "TooLarge.__init__", defArgs (inClass (top 5) 0), defBody (inClass (top 5) 0), defScope (inClass (top 5) 0), [], []⟩
def fn : List He.DefD := ([d_is_int, d_check_number, d_is_letter, d_row_of, d_check_text, d_signs_of, d__node, d_node_behind, d_window_of, d_windows, d_fits, d_tail_of, d_head_of, d_cut_window, d__law_draws] : List He.DefD) ++ ([d__law_take, d__law_int, d__law_letters, d__law_row, d__law_chain, d__law_parted, d__law_closed, d__law_made, d__law_text, d__law_windows, d__law_head, d__law_node, d__law_due_fits, d__law_signs, d__law_ask] : List He.DefD) ++ ([d__law_named, d__law_windows_right, d__law_longer_right, d__law_bent, d__law_bends_right, d__law_letters_right, d__law_refusals_right, d_law, d_BadNumber___init__, d_BadText___init__, d_BadWindow___init__, d_TooLarge___init__] : List He.DefD)
def fa : List He.Fa := ([.glo "is_int", .glo "check_number", .glo "is_letter", .glo "row_of", .glo "check_text", .glo "signs_of", .glo "_node", .glo "node_behind", .glo "window_of", .glo "windows", .glo "fits", .glo "tail_of", .glo "head_of", .glo "cut_window", .glo "_law_draws"] : List He.Fa) ++ ([.glo "_law_take", .glo "_law_int", .glo "_law_letters", .glo "_law_row", .glo "_law_chain", .glo "_law_parted", .glo "_law_closed", .glo "_law_made", .glo "_law_text", .glo "_law_windows", .glo "_law_head", .glo "_law_node", .glo "_law_due_fits", .glo "_law_signs", .glo "_law_ask"] : List He.Fa) ++ ([.glo "_law_named", .glo "_law_windows_right", .glo "_law_longer_right", .glo "_law_bent", .glo "_law_bends_right", .glo "_law_letters_right", .glo "_law_refusals_right", .glo "law", .glo "SameError", .glo "BadNumber", .glo "BadText", .glo "BadWindow", .glo "TooLarge", .free "all", .free "bool"] : List He.Fa) ++ ([.free "enumerate", .free "int", .free "isinstance", .free "len", .free "list", .free "max", .free "min", .free "range", .free "tuple", .int "HOME" (-1), .int "END" (-2)] : List He.Fa)
def loose : List PySem.Str := (["SameError", "BadNumber", "BadText", "BadWindow", "TooLarge", "is_int", "check_number", "HOME", "END", "is_letter", "row_of", "check_text", "signs_of", "_node", "node_behind"] : List PySem.Str) ++ (["window_of", "windows", "fits", "tail_of", "head_of", "cut_window", "_law_draws", "_law_take", "_law_int", "_law_letters", "_law_row", "_law_chain", "_law_parted", "_law_closed", "_law_text"] : List PySem.Str) ++ (["_law_made", "_law_windows", "_law_head", "_law_node", "_law_due_fits", "_law_signs", "_law_ask", "_law_named", "_law_windows_right", "_law_longer_right", "_law_bent", "_law_bends_right", "_law_letters_right", "_law_refusals_right"] : List PySem.Str)
def xt : XT := ⟨["BadNumber", "BadText", "BadWindow", "TooLarge"], [("BadNumber", "name"), ("BadText", "place"), ("BadWindow", "place"), ("TooLarge", "name"), ("TooLarge", "most")], ["BadNumber", "BadWindow"], subL⟩
abbrev R : PySem.W.OpenRow := PySem.W.OpenLaw.row PySem.Challenge.rw_samewindows_k03_nodes_and_longer_windows
abbrev hk : PySem.W.Hook := hookX 5 fa fn xt
def ob (s : PySem.W.SharedT) : He.AlD := obsXG 5 fa fn xt (HandSHeadRun.getT s)
theorem ob_eq (s : PySem.W.SharedT) : ob s = hk.obs s.abs := obsXG_eq (HandSHeadRun.getT_eq s)
theorem run (w : World) : HandSHeadRun.RunEq R (PySem.W.view R.prog [51]) hk ob 4000 loose w := by
  intro os
  kernel_rfl
theorem sci_BadNumber : FnScope ["self", "name"] ["self", "name"] (defScope (inClass (top 2) 0)) := ⟨rfl, rfl, rfl, by decide +kernel, rfl, by decide +kernel, by decide +kernel⟩
theorem sci_BadText : FnScope ["self", "place"] ["self", "place"] (defScope (inClass (top 3) 0)) := ⟨rfl, rfl, rfl, by decide +kernel, rfl, by decide +kernel, by decide +kernel⟩
theorem sci_BadWindow : FnScope ["self", "place"] ["self", "place"] (defScope (inClass (top 4) 0)) := ⟨rfl, rfl, rfl, by decide +kernel, rfl, by decide +kernel, by decide +kernel⟩
theorem sci_TooLarge : FnScope ["self", "name", "most"] ["self", "name", "most"] (defScope (inClass (top 5) 0)) := ⟨rfl, rfl, rfl, by decide +kernel, rfl, by decide +kernel, by decide +kernel⟩
theorem hf {K : PySem.W.Frag} {h : Heap} {mg : Str → Option Value} (X : K.In h) (G0 : h.Ns mainGlobals mg) (c : SaysX fa fn xt K) : HF K mg where
  f_is_int := (c.says.def_ 0 (d := d_is_int) rfl).elim fun fd F => ⟨_, fd, F, He.glo_ok X G0 (c.says.fact 0 (f := .glo "is_int") rfl)⟩
  f_check_number := (c.says.def_ 1 (d := d_check_number) rfl).elim fun fd F => ⟨_, fd, F, He.glo_ok X G0 (c.says.fact 1 (f := .glo "check_number") rfl)⟩
  f_is_letter := (c.says.def_ 2 (d := d_is_letter) rfl).elim fun fd F => ⟨_, fd, F, He.glo_ok X G0 (c.says.fact 2 (f := .glo "is_letter") rfl)⟩
  f_row_of := (c.says.def_ 3 (d := d_row_of) rfl).elim fun fd F => ⟨_, fd, F, He.glo_ok X G0 (c.says.fact 3 (f := .glo "row_of") rfl)⟩
  f_check_text := (c.says.def_ 4 (d := d_check_text) rfl).elim fun fd F => ⟨_, fd, F, He.glo_ok X G0 (c.says.fact 4 (f := .glo "check_text") rfl)⟩
  f_signs_of := (c.says.def_ 5 (d := d_signs_of) rfl).elim fun fd F => ⟨_, fd, F, He.glo_ok X G0 (c.says.fact 5 (f := .glo "signs_of") rfl)⟩
  f__node := (c.says.def_ 6 (d := d__node) rfl).elim fun fd F => ⟨_, fd, F, He.glo_ok X G0 (c.says.fact 6 (f := .glo "_node") rfl)⟩
  f_node_behind := (c.says.def_ 7 (d := d_node_behind) rfl).elim fun fd F => ⟨_, fd, F, He.glo_ok X G0 (c.says.fact 7 (f := .glo "node_behind") rfl)⟩
  f_window_of := (c.says.def_ 8 (d := d_window_of) rfl).elim fun fd F => ⟨_, fd, F, He.glo_ok X G0 (c.says.fact 8 (f := .glo "window_of") rfl)⟩
  f_windows := (c.says.def_ 9 (d := d_windows) rfl).elim fun fd F => ⟨_, fd, F, He.glo_ok X G0 (c.says.fact 9 (f := .glo "windows") rfl)⟩
  f_fits := (c.says.def_ 10 (d := d_fits) rfl).elim fun fd F => ⟨_, fd, F, He.glo_ok X G0 (c.says.fact 10 (f := .glo "fits") rfl)⟩
  f_tail_of := (c.says.def_ 11 (d := d_tail_of) rfl).elim fun fd F => ⟨_, fd, F, He.glo_ok X G0 (c.says.fact 11 (f := .glo "tail_of") rfl)⟩
  f_head_of := (c.says.def_ 12 (d := d_head_of) rfl).elim fun fd F => ⟨_, fd, F, He.glo_ok X G0 (c.says.fact 12 (f := .glo "head_of") rfl)⟩
  f_cut_window := (c.says.def_ 13 (d := d_cut_window) rfl).elim fun fd F => ⟨_, fd, F, He.glo_ok X G0 (c.says.fact 13 (f := .glo "cut_window") rfl)⟩
  f__law_draws := (c.says.def_ 14 (d := d__law_draws) rfl).elim fun fd F => ⟨_, fd, F, He.glo_ok X G0 (c.says.fact 14 (f := .glo "_law_draws") rfl)⟩
  f__law_take := (c.says.def_ 15 (d := d__law_take) rfl).elim fun fd F => ⟨_, fd, F, He.glo_ok X G0 (c.says.fact 15 (f := .glo "_law_take") rfl)⟩
  f__law_int := (c.says.def_ 16 (d := d__law_int) rfl).elim fun fd F => ⟨_, fd, F, He.glo_ok X G0 (c.says.fact 16 (f := .glo "_law_int") rfl)⟩
  f__law_letters := (c.says.def_ 17 (d := d__law_letters) rfl).elim fun fd F => ⟨_, fd, F, He.glo_ok X G0 (c.says.fact 17 (f := .glo "_law_letters") rfl)⟩
  f__law_row := (c.says.def_ 18 (d := d__law_row) rfl).elim fun fd F => ⟨_, fd, F, He.glo_ok X G0 (c.says.fact 18 (f := .glo "_law_row") rfl)⟩
  f__law_chain := (c.says.def_ 19 (d := d__law_chain) rfl).elim fun fd F => ⟨_, fd, F, He.glo_ok X G0 (c.says.fact 19 (f := .glo "_law_chain") rfl)⟩
  f__law_parted := (c.says.def_ 20 (d := d__law_parted) rfl).elim fun fd F => ⟨_, fd, F, He.glo_ok X G0 (c.says.fact 20 (f := .glo "_law_parted") rfl)⟩
  f__law_closed := (c.says.def_ 21 (d := d__law_closed) rfl).elim fun fd F => ⟨_, fd, F, He.glo_ok X G0 (c.says.fact 21 (f := .glo "_law_closed") rfl)⟩
  f__law_made := (c.says.def_ 22 (d := d__law_made) rfl).elim fun fd F => ⟨_, fd, F, He.glo_ok X G0 (c.says.fact 22 (f := .glo "_law_made") rfl)⟩
  f__law_text := (c.says.def_ 23 (d := d__law_text) rfl).elim fun fd F => ⟨_, fd, F, He.glo_ok X G0 (c.says.fact 23 (f := .glo "_law_text") rfl)⟩
  f__law_windows := (c.says.def_ 24 (d := d__law_windows) rfl).elim fun fd F => ⟨_, fd, F, He.glo_ok X G0 (c.says.fact 24 (f := .glo "_law_windows") rfl)⟩
  f__law_head := (c.says.def_ 25 (d := d__law_head) rfl).elim fun fd F => ⟨_, fd, F, He.glo_ok X G0 (c.says.fact 25 (f := .glo "_law_head") rfl)⟩
  f__law_node := (c.says.def_ 26 (d := d__law_node) rfl).elim fun fd F => ⟨_, fd, F, He.glo_ok X G0 (c.says.fact 26 (f := .glo "_law_node") rfl)⟩
  f__law_due_fits := (c.says.def_ 27 (d := d__law_due_fits) rfl).elim fun fd F => ⟨_, fd, F, He.glo_ok X G0 (c.says.fact 27 (f := .glo "_law_due_fits") rfl)⟩
  f__law_signs := (c.says.def_ 28 (d := d__law_signs) rfl).elim fun fd F => ⟨_, fd, F, He.glo_ok X G0 (c.says.fact 28 (f := .glo "_law_signs") rfl)⟩
  f__law_ask := (c.says.def_ 29 (d := d__law_ask) rfl).elim fun fd F => ⟨_, fd, F, He.glo_ok X G0 (c.says.fact 29 (f := .glo "_law_ask") rfl)⟩
  f__law_named := (c.says.def_ 30 (d := d__law_named) rfl).elim fun fd F => ⟨_, fd, F, He.glo_ok X G0 (c.says.fact 30 (f := .glo "_law_named") rfl)⟩
  f__law_windows_right := (c.says.def_ 31 (d := d__law_windows_right) rfl).elim fun fd F => ⟨_, fd, F, He.glo_ok X G0 (c.says.fact 31 (f := .glo "_law_windows_right") rfl)⟩
  f__law_longer_right := (c.says.def_ 32 (d := d__law_longer_right) rfl).elim fun fd F => ⟨_, fd, F, He.glo_ok X G0 (c.says.fact 32 (f := .glo "_law_longer_right") rfl)⟩
  f__law_bent := (c.says.def_ 33 (d := d__law_bent) rfl).elim fun fd F => ⟨_, fd, F, He.glo_ok X G0 (c.says.fact 33 (f := .glo "_law_bent") rfl)⟩
  f__law_bends_right := (c.says.def_ 34 (d := d__law_bends_right) rfl).elim fun fd F => ⟨_, fd, F, He.glo_ok X G0 (c.says.fact 34 (f := .glo "_law_bends_right") rfl)⟩
  f__law_letters_right := (c.says.def_ 35 (d := d__law_letters_right) rfl).elim fun fd F => ⟨_, fd, F, He.glo_ok X G0 (c.says.fact 35 (f := .glo "_law_letters_right") rfl)⟩
  f__law_refusals_right := (c.says.def_ 36 (d := d__law_refusals_right) rfl).elim fun fd F => ⟨_, fd, F, He.glo_ok X G0 (c.says.fact 36 (f := .glo "_law_refusals_right") rfl)⟩
  f_law := (c.says.def_ 37 (d := d_law) rfl).elim fun fd F => ⟨_, fd, F, He.glo_ok X G0 (c.says.fact 37 (f := .glo "law") rfl)⟩
  b_all := He.free_ok X G0 (c.says.fact 43 (f := .free "all") rfl)
  b_bool := He.free_ok X G0 (c.says.fact 44 (f := .free "bool") rfl)
  b_enumerate := He.free_ok X G0 (c.says.fact 45 (f := .free "enumerate") rfl)
  b_int := He.free_ok X G0 (c.says.fact 46 (f := .free "int") rfl)
  b_isinstance := He.free_ok X G0 (c.says.fact 47 (f := .free "isinstance") rfl)
  b_len := He.free_ok X G0 (c.says.fact 48 (f := .free "len") rfl)
  b_list := He.free_ok X G0 (c.says.fact 49 (f := .free "list") rfl)
  b_max := He.free_ok X G0 (c.says.fact 50 (f := .free "max") rfl)
  b_min := He.free_ok X G0 (c.says.fact 51 (f := .free "min") rfl)
  b_range := He.free_ok X G0 (c.says.fact 52 (f := .free "range") rfl)
  b_tuple := He.free_ok X G0 (c.says.fact 53 (f := .free "tuple") rfl)
  g_HOME := He.int_ok X G0 (c.says.fact 54 (f := .int "HOME" (-1)) rfl)
  g_END := He.int_ok X G0 (c.says.fact 55 (f := .int "END" (-2)) rfl)
  exc_BadNumber := fun P w base => by
    obtain ⟨fd, F⟩ := c.says.def_ 38 (d := d_BadNumber___init__) rfl
    exact excZ_of (wb := tOst K "name" (tVar 0) (tVar 1)) (He.glo_ok X G0 (c.says.fact 39 (f := .glo "BadNumber") rfl)) (xt_oex c.xt (by decide)) F sci_BadNumber rfl (fun _ _ _ _ _ _ us hl => match us, hl with | [_, _], _ => rfl) (fun f cdv A outer s H E => pss_one (ps_ost (pv 0) (pv 1))) fun vs H Q E h => init1_pure rfl (xt_no c.xt (p := ("BadNumber", "name")) (by decide)) h
  exc_BadText := fun P w base => by
    obtain ⟨fd, F⟩ := c.says.def_ 39 (d := d_BadText___init__) rfl
    exact excZ_of (wb := tOst K "place" (tVar 0) (tVar 1)) (He.glo_ok X G0 (c.says.fact 40 (f := .glo "BadText") rfl)) (xt_oex c.xt (by decide)) F sci_BadText rfl (fun _ _ _ _ _ _ us hl => match us, hl with | [_, _], _ => rfl) (fun f cdv A outer s H E => pss_one (ps_ost (pv 0) (pv 1))) fun vs H Q E h => init1_pure rfl (xt_no c.xt (p := ("BadText", "place")) (by decide)) h
  exc_BadWindow := fun P w base => by
    obtain ⟨fd, F⟩ := c.says.def_ 40 (d := d_BadWindow___init__) rfl
    exact excZ_of (wb := tOst K "place" (tVar 0) (tVar 1)) (He.glo_ok X G0 (c.says.fact 41 (f := .glo "BadWindow") rfl)) (xt_oex c.xt (by decide)) F sci_BadWindow rfl (fun _ _ _ _ _ _ us hl => match us, hl with | [_, _], _ => rfl) (fun f cdv A outer s H E => pss_one (ps_ost (pv 0) (pv 1))) fun vs H Q E h => init1_pure rfl (xt_no c.xt (p := ("BadWindow", "place")) (by decide)) h
  exc_TooLarge := fun P w base => by
    obtain ⟨fd, F⟩ := c.says.def_ 41 (d := d_TooLarge___init__) rfl
    exact excZ_of (wb := tSeq (tOst K "name" (tVar 0) (tVar 1)) (tOst K "most" (tVar 0) (tVar 2))) (He.glo_ok X G0 (c.says.fact 42 (f := .glo "TooLarge") rfl)) (xt_oex c.xt (by decide)) F sci_TooLarge rfl (fun _ _ _ _ _ _ us hl => match us, hl with | [_, _, _], _ => rfl) (fun f cdv A outer s H E => pss_cons (ps_ost (pv 0) (pv 1)) (pss_one (ps_ost (pv 0) (pv 2)))) fun vs H Q E h => init2_pure rfl (xt_no c.xt (p := ("TooLarge", "name")) (by decide)) (xt_no c.xt (p := ("TooLarge", "most")) (by decide)) h
  nf_BadWindow_place := xt_no c.xt (p := ("BadWindow", "place")) (by decide)
  nf_BadNumber_name := xt_no c.xt (p := ("BadNumber", "name")) (by decide)
  x_BadNumber := xt_xf c.xt (by decide)
  x_BadWindow := xt_xf c.xt (by decide)
  sub := xt_sub c.xt
end LK
set_option Elab.async false
set_option linter.all false
set_option maxRecDepth 100000
set_option maxHeartbeats 0
open PySem PySem.W PySem.Calls PyProof.Rows
theorem PySem.Challenge.cw_samewindows_k03_nodes_and_longer_windows_holds : PySem.Challenge.rw_samewindows_k03_nodes_and_longer_windows.Holds := by
  w_on; o_law
  refine HandSHeadRun.head_any (r := LK.R) (q := view LK.R.prog [51]) (H := LK.hk) (ob := LK.ob) (M := 4000) (loose := LK.loose) (d := HandSHeadRun.topDef LK.R.prog 51) (kwd := []) LK.ob_eq
    (by kernel_rfl) (fun s => by kernel_rfl) LK.run (by kernel_rfl) (by kernel_rfl) (by kernel_rfl) (by rfl) (by first | assumption | decide +kernel) (by decide +kernel) ⟨rfl, rfl, rfl, rfl, rfl, by decide +kernel⟩ ?hw ?hc
  case hw => w_witness2
  case hc =>
    refine Z.walk_X (l := PySem.Challenge.rw_samewindows_k03_nodes_and_longer_windows) (m := 63) (k := 8) (x := "script") rfl (by decide) (by kernel_rfl) ⟨rfl, by decide, by decide⟩ ?F
    intro w mg fa h Y G0 hmg0
    obtain ⟨K, KX, c⟩ := Y
    have hmg : mg ("law" : PySem.Str) = some (.ref fa) := by
      have e : (HandSHeadRun.topDef LK.R.prog 51).name = ("law" : PySem.Str) := by kernel_rfl
      rw [← e]
      exact hmg0
    have H0 := LK.hf KX G0 c
    obtain ⟨f, fd, F, hm⟩ := H0.f_law
    have ef : f = fa := by
      rw [hm] at hmg
      exact Value.ref.inj (Option.some.inj hmg)
    subst ef
    have b := L2.FunD.bindsA (ps := ["script"]) F fun _ _ _ _ _ _ us hl => match us, hl with | [_], _ => rfl
    exact ⟨K, fd, Z.toSp ⟨K, none⟩ [0] LK.sp_law, KX, fun s v => b s [v] rfl, fun H a ns hl hO hS => Z.law_sp hO hS (LK.law_pure ns hl), fun base _ _ => Z.fn_ok F LK.sc_law rfl (by decide) (fun cdv A outer s H E hr => LK.ds_law H0 f cdv A outer s H E hr) fun _ _ _ _ q => q.run⟩
