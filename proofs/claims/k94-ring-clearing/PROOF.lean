import PyProof.Rows.All
import Wide.All
import OpenK.AllK
import Wide.FinOn
import HandS.ForMost
import HandS.Wide
import HandS.WideMore
import HandS.Walk
import HandS.IsInst
import HandS.Conv
import HandS.TupAny
import HandS.Style
import PySem.Challenge.RW_pensionhall_k94_whole_ring_clearing
set_option Elab.async false
set_option linter.all false
set_option maxRecDepth 100000
/-! TL: values as plain trees over HandS; lists are owned down to a depth. -/
namespace TL
open PySem PySem.Spec PyProof.Rows L2

/-! ### trees -/
inductive T where
  | non | bl (b : Bool) | int (i : Int) | str (s : Str)
  | tup (ts : List T) | lst (ts : List T) | dct (ks vs : List T) | ins (C : Addr) (ns : List Str) (ts : List T)
  -- the script: a locked list of ints
  | scr (ns : List Int)

mutual
def T.flatAt : T → Nat → Bool
  | .tup ts, n => T.flatAts ts (n - 1)
  | .lst _, 0 => false
  | .lst ts, n + 1 => T.flatAts ts n
  | .dct _ _, 0 => false
  | .dct _ vs, n + 1 => T.flatAts vs n
  | .ins _ _ _, 0 => false
  | .ins _ _ ts, n + 1 => T.flatAts ts n
  | .non, _ => true
  | .bl _, _ => true
  | .int _, _ => true
  | .str _, _ => true
  | .scr _, _ => true
def T.flatAts : List T → Nat → Bool
  | [], _ => true
  | t :: ts, n => T.flatAt t n && T.flatAts ts n
end
abbrev T.flat (t : T) : Bool := t.flatAt 0
abbrev T.flats (ts : List T) : Bool := T.flatAts ts 0

theorem flatAts_iff : ∀ {ts : List T} {n : Nat}, T.flatAts ts n = true ↔ ∀ t ∈ ts, t.flatAt n = true
  | [], n => by simp [T.flatAts]
  | t :: ts, n => by
    rw [T.flatAts, Bool.and_eq_true, flatAts_iff]
    simp

/-! ### a value stands for a tree: lists are owned down to depth n (their addresses told in F), below that they lie in S -/
/-- a list that is locked, or of the written part -/
def SqF (K : PySem.W.Frag) (H : Hp) (a : Addr) (vs : List V) : Prop :=
  (∃ o, H a = some (.frz o (.lst vs))) ∨ ∃ (o : Obj) (its : Array Value) (n : Nat), K.lookup a = some o ∧ o.cls = .type "list" ∧ o.dict = none ∧ o.data = .seq its n ∧ its.size ≤ sizeLine ∧ Vals vs its.toList
/-- a list that is only read: its address is in S -/
def SqS (H : Hp) (S : Addr → Prop) (a : Addr) (vs : List V) : Prop := H a = some (.lst vs) ∧ S a
mutual
inductive Own (K : PySem.W.Frag) (H : Hp) (S : Addr → Prop) : Nat → T → V → List Addr → Prop
  | non {n : Nat} : Own K H S n .non .non []
  | bl {n : Nat} (b : Bool) : Own K H S n (.bl b) (.bl b) []
  | int {n : Nat} (i : Int) : Own K H S n (.int i) (.int i) []
  | str {n : Nat} (x : Str) : Own K H S n (.str x) (.str x) []
  | scr {n : Nat} {a : Addr} {ns : List Int} : SqF K H a (ns.map V.int) → Own K H S n (.scr ns) (.ref a) []
  | tupf {n : Nat} {a : Addr} {vs : List V} {ts : List T} : SqT K H a vs → T.flats ts = true → Owns K H S 0 ts vs [] → Own K H S n (.tup ts) (.ref a) []
  | tup0 {a : Addr} {vs : List V} {ts : List T} : SqT K H a vs → Owns K H S 0 ts vs [] → Own K H S 0 (.tup ts) (.ref a) []
  | tup {n : Nat} {a : Addr} {vs : List V} {ts : List T} {F : List Addr} : H a = some (.tup vs) → Owns K H S n ts vs F → Own K H S (n + 1) (.tup ts) (.ref a) F
  | sls {a : Addr} {vs : List V} {ts : List T} : SqS H S a vs → Owns K H S 0 ts vs [] → Own K H S 0 (.lst ts) (.ref a) []
  | lst {n : Nat} {a : Addr} {vs : List V} {ts : List T} {F : List Addr} : H a = some (.lst vs) → Owns K H S n ts vs F → Own K H S (n + 1) (.lst ts) (.ref a) (a :: F)
inductive Owns (K : PySem.W.Frag) (H : Hp) (S : Addr → Prop) : Nat → List T → List V → List Addr → Prop
  | nil {n : Nat} : Owns K H S n [] [] []
  | cons {n : Nat} {t : T} {ts : List T} {v : V} {vs : List V} {F G : List Addr} : Own K H S n t v F → Owns K H S n ts vs G → Owns K H S n (t :: ts) (v :: vs) (F ++ G)
end
abbrev Shr (K : PySem.W.Frag) (H : Hp) (S : Addr → Prop) (t : T) (v : V) : Prop := Own K H S 0 t v []
abbrev Shrs (K : PySem.W.Frag) (H : Hp) (S : Addr → Prop) (ts : List T) (vs : List V) : Prop := Owns K H S 0 ts vs []

section
variable {K : PySem.W.Frag} {H H' : Hp} {S S' : Addr → Prop}
theorem Owns.length {n : Nat} : ∀ {ts : List T} {vs : List V} {F : List Addr}, Owns K H S n ts vs F → ts.length = vs.length
  | [], _, _, .nil => rfl
  | _ :: _, _, _, .cons _ r => by rw [List.length_cons, List.length_cons, Owns.length r]
mutual
theorem Own.zero : ∀ {t : T} {v : V} {F : List Addr}, Own K H S 0 t v F → F = []
  | .non, _, _, h => by cases h; rfl
  | .bl _, _, _, h => by cases h; rfl
  | .int _, _, _, h => by cases h; rfl
  | .str _, _, _, h => by cases h; rfl
  | .scr _, _, _, h => by cases h; rfl
  | .tup ts, _, _, h => by
    cases h with
    | tupf _ _ r => rfl
    | tup0 _ r => rfl
  | .lst ts, _, _, h => by cases h; rfl
  | .dct _ _, _, _, h => by cases h
  | .ins _ _ _, _, _, h => by cases h
theorem Owns.zero : ∀ {ts : List T} {vs : List V} {F : List Addr}, Owns K H S 0 ts vs F → F = []
  | [], _, _, h => by cases h; rfl
  | t :: ts, _, _, h => by
    cases h with
    | cons a r => rw [Own.zero a, Owns.zero r]; rfl
end
/-- what a change of the heap must keep -/
structure Kp (H H' : Hp) (S : Addr → Prop) (F : List Addr) : Prop where
  tup : ∀ a xs, H a = some (.tup xs) → H' a = some (.tup xs)
  frz : ∀ a o u, H a = some (.frz o u) → H' a = some (.frz o u)
  lst : ∀ a xs, (S a ∨ a ∈ F) → H a = some (.lst xs) → H' a = some (.lst xs)
theorem Kp.sqT {F : List Addr} (k : Kp H H' S F) {a : Addr} {vs : List V} (h : SqT K H a vs) : SqT K H' a vs := by
  rcases h with (h | ⟨o, h⟩) | h
  · exact .inl (.inl (k.tup _ _ h))
  · exact .inl (.inr ⟨o, k.frz _ _ _ h⟩)
  · exact .inr h
theorem Kp.sqS {F : List Addr} (k : Kp H H' S F) (hS : ∀ a, S a → S' a) {a : Addr} {vs : List V} (h : SqS H S a vs) : SqS H' S' a vs := ⟨k.lst _ _ (.inl h.2) h.1, hS a h.2⟩
theorem Kp.sqL {F : List Addr} (k : Kp H H' S F) {a : Addr} {vs : List V} (h : SqF K H a vs) : SqF K H' a vs := by
  rcases h with ⟨o, h⟩ | h
  · exact .inl ⟨o, k.frz _ _ _ h⟩
  · exact .inr h
theorem Kp.sub {F G : List Addr} (k : Kp H H' S F) (h : ∀ a ∈ G, a ∈ F) : Kp H H' S G := ⟨k.tup, k.frz, fun a xs q e => k.lst a xs (q.imp_right (h a)) e⟩
theorem Kp.same {F : List Addr} (s : Same H H') : Kp H H' S F := ⟨fun a xs e => s a _ e, fun a o u e => s a _ e, fun a xs _ e => s a _ e⟩
mutual
theorem Own.keep (hS : ∀ a, S a → S' a) : ∀ {t : T} {n : Nat} {v : V} {F : List Addr}, Own K H S n t v F → Kp H H' S F → Own K H' S' n t v F
  | .non, _, _, _, h, _ => by cases h; exact .non
  | .bl _, _, _, _, h, _ => by cases h; exact .bl _
  | .int _, _, _, _, h, _ => by cases h; exact .int _
  | .str _, _, _, _, h, _ => by cases h; exact .str _
  | .scr _, _, _, _, h, k => by
    cases h with
    | scr q => exact .scr (k.sqL q)
  | .tup ts, _, _, _, h, k => by
    cases h with
    | tupf q f r => exact .tupf (k.sqT q) f (Owns.keep hS r k)
    | tup0 q r => exact .tup0 (k.sqT q) (Owns.keep hS r k)
    | tup q r => exact .tup (k.tup _ _ q) (Owns.keep hS r k)
  | .lst ts, _, _, _, h, k => by
    cases h with
    | sls q r => exact .sls (k.sqS hS q) (Owns.keep hS r k)
    | lst q r => exact .lst (k.lst _ _ (.inr List.mem_cons_self) q) (Owns.keep hS r (k.sub fun a m => List.mem_cons_of_mem _ m))
  | .dct _ _, _, _, _, h, _ => by cases h
  | .ins _ _ _, _, _, _, h, _ => by cases h
theorem Owns.keep (hS : ∀ a, S a → S' a) : ∀ {ts : List T} {n : Nat} {vs : List V} {F : List Addr}, Owns K H S n ts vs F → Kp H H' S F → Owns K H' S' n ts vs F
  | [], _, _, _, h, _ => by cases h; exact .nil
  | t :: ts, _, _, _, h, k => by
    cases h with
    | cons a r => exact .cons (Own.keep hS a (k.sub fun b m => List.mem_append_left _ m)) (Owns.keep hS r (k.sub fun b m => List.mem_append_right _ m))
end
-- all owned nodes stand 
mutual
theorem Own.there : ∀ {t : T} {n : Nat} {v : V} {F : List Addr}, Own K H S n t v F → ∀ a ∈ F, ∃ vs, H a = some (.lst vs)
  | .non, _, _, _, h, a, m => by cases h; cases m
  | .bl _, _, _, _, h, a, m => by cases h; cases m
  | .int _, _, _, _, h, a, m => by cases h; cases m
  | .str _, _, _, _, h, a, m => by cases h; cases m
  | .scr _, _, _, _, h, a, m => by cases h; cases m
  | .tup ts, _, _, _, h, a, m => by
    cases h with
    | tupf _ _ r => cases m
    | tup0 _ r => cases m
    | tup _ r => exact Owns.there r a m
  | .lst ts, _, _, _, h, a, m => by
    cases h with
    | sls _ _ => cases m
    | lst q r =>
      rcases List.mem_cons.mp m with rfl | m
      · exact ⟨_, q⟩
      · exact Owns.there r a m
  | .dct _ _, _, _, _, h, _, _ => by cases h
  | .ins _ _ _, _, _, _, h, _, _ => by cases h
theorem Owns.there : ∀ {ts : List T} {n : Nat} {vs : List V} {F : List Addr}, Owns K H S n ts vs F → ∀ a ∈ F, ∃ vs, H a = some (.lst vs)
  | [], _, _, _, h, a, m => by cases h; cases m
  | t :: ts, _, _, _, h, a, m => by
    cases h with
    | cons x r =>
      rcases List.mem_append.mp m with m | m
      · exact Own.there x a m
      · exact Owns.there r a m
end
-- a tree without lists below depth n: what is shared in it does not matter 
mutual
theorem Own.anyS {t : T} {n : Nat} {v : V} {F : List Addr} (h : Own K H S n t v F) (hf : t.flatAt n = true) (S' : Addr → Prop) : Own K H S' n t v F := by
  cases t with
  | non => cases h; exact .non
  | bl _ => cases h; exact .bl _
  | int _ => cases h; exact .int _
  | str _ => cases h; exact .str _
  | scr _ =>
    cases h with
    | scr q => exact .scr q
  | tup ts =>
    cases h with
    | tupf q f r => exact .tupf q f (Owns.anyS r f S')
    | tup0 q r => exact .tup0 q (Owns.anyS r (by rw [T.flatAt] at hf; exact hf) S')
    | tup q r => exact .tup q (Owns.anyS r (by rw [T.flatAt] at hf; exact hf) S')
  | lst ts =>
    cases h with
    | sls q r => rw [T.flatAt] at hf; cases hf
    | lst q r => exact .lst q (Owns.anyS r (by rw [T.flatAt] at hf; exact hf) S')
  | dct _ _ => cases h
  | ins _ _ _ => cases h
theorem Owns.anyS {ts : List T} {n : Nat} {vs : List V} {F : List Addr} (h : Owns K H S n ts vs F) (hf : T.flatAts ts n = true) (S' : Addr → Prop) : Owns K H S' n ts vs F := by
  cases ts with
  | nil => cases h; exact .nil
  | cons t ts =>
    rw [T.flatAts, Bool.and_eq_true] at hf
    cases h with
    | cons a r => exact .cons (Own.anyS a hf.1 S') (Owns.anyS r hf.2 S')
end
-- a flat tree has no owned nodes; its depth does not matter 
mutual
theorem Own.flat0 {t : T} {n : Nat} {v : V} {F : List Addr} (h : Own K H S n t v F) (hf : t.flat = true) : F = [] ∧ ∀ m S', Own K H S' m t v [] := by
  cases t with
  | non => cases h; exact ⟨rfl, fun _ _ => .non⟩
  | bl _ => cases h; exact ⟨rfl, fun _ _ => .bl _⟩
  | int _ => cases h; exact ⟨rfl, fun _ _ => .int _⟩
  | str _ => cases h; exact ⟨rfl, fun _ _ => .str _⟩
  | scr _ =>
    cases h with
    | scr q => exact ⟨rfl, fun _ _ => .scr q⟩
  | tup ts =>
    cases h with
    | tupf q f r => exact ⟨rfl, fun m S' => .tupf q f ((Owns.flat0 r f).2 0 S')⟩
    | tup0 q r =>
      have f : T.flats ts = true := by rw [T.flat, T.flatAt] at hf; exact hf
      exact ⟨rfl, fun m S' => .tupf q f ((Owns.flat0 r f).2 0 S')⟩
    | tup q r =>
      have f : T.flats ts = true := by rw [T.flat, T.flatAt] at hf; exact hf
      have z := Owns.flat0 r f
      exact ⟨z.1, fun m S' => .tupf (SqT.of q) f (z.2 0 S')⟩
  | lst ts => rw [T.flat, T.flatAt] at hf; cases hf
  | dct _ _ => cases h
  | ins _ _ _ => cases h
theorem Owns.flat0 {ts : List T} {n : Nat} {vs : List V} {F : List Addr} (h : Owns K H S n ts vs F) (hf : T.flats ts = true) : F = [] ∧ ∀ m S', Owns K H S' m ts vs [] := by
  cases ts with
  | nil => cases h; exact ⟨rfl, fun _ _ => .nil⟩
  | cons t ts =>
    rw [T.flats, T.flatAts, Bool.and_eq_true] at hf
    cases h with
    | cons a r =>
      have z1 := Own.flat0 a hf.1
      have z2 := Owns.flat0 r hf.2
      refine ⟨by rw [z1.1, z2.1]; rfl, fun m S' => ?_⟩
      have q := Owns.cons (z1.2 m S') (z2.2 m S')
      exact q
end
-- less is owned: what is given up goes to S 
mutual
theorem Own.less {t : T} {n m : Nat} {v : V} {F : List Addr} (h : Own K H S n t v F) (hm : m ≤ n) :
    ∃ F' : List Addr, F'.Sublist F ∧ ∀ S' : Addr → Prop, (∀ a, S a → S' a) → (∀ a ∈ F, a ∉ F' → S' a) → F.Nodup → Own K H S' m t v F' := by
  cases t with
  | non => cases h; exact ⟨[], List.Sublist.refl _, fun _ _ _ _ => .non⟩
  | bl _ => cases h; exact ⟨[], List.Sublist.refl _, fun _ _ _ _ => .bl _⟩
  | int _ => cases h; exact ⟨[], List.Sublist.refl _, fun _ _ _ _ => .int _⟩
  | str _ => cases h; exact ⟨[], List.Sublist.refl _, fun _ _ _ _ => .str _⟩
  | scr _ =>
    cases h with
    | scr q => exact ⟨[], List.Sublist.refl _, fun _ _ _ _ => .scr q⟩
  | tup ts =>
    cases h with
    | tupf q f r => exact ⟨[], List.Sublist.refl _, fun S' h1 h2 h3 => .tupf q f ((Owns.flat0 r f).2 0 S')⟩
    | tup0 q r =>
      have e : m = 0 := by omega
      subst e
      exact ⟨[], List.Sublist.refl _, fun S' h1 _ _ => .tup0 q (Owns.keep h1 r ⟨fun _ _ e => e, fun _ _ _ e => e, fun _ _ _ e => e⟩)⟩
    | @tup n a vs ts F q r =>
      cases m with
      | zero =>
        obtain ⟨F', sb, k⟩ := Owns.less r (m := 0) (Nat.zero_le _)
        refine ⟨[], List.nil_sublist _, fun S' h1 h2 h3 => ?_⟩
        have z := k S' h1 (fun b hb _ => h2 b hb (by simp)) h3
        have e := Owns.zero z
        subst e
        exact .tup0 (SqT.of q) z
      | succ m =>
        obtain ⟨F', sb, k⟩ := Owns.less r (m := m) (by omega)
        exact ⟨F', sb, fun S' h1 h2 h3 => .tup q (k S' h1 h2 h3)⟩
  | lst ts =>
    cases h with
    | sls q r =>
      have e : m = 0 := by omega
      subst e
      exact ⟨[], List.Sublist.refl _, fun S' h1 _ _ => .sls (⟨q.1, h1 _ q.2⟩) (Owns.keep h1 r ⟨fun _ _ e => e, fun _ _ _ e => e, fun _ _ _ e => e⟩)⟩
    | @lst n a vs ts F q r =>
      cases m with
      | zero =>
        obtain ⟨F', sb, k⟩ := Owns.less r (m := 0) (Nat.zero_le _)
        refine ⟨[], List.nil_sublist _, fun S' h1 h2 h3 => ?_⟩
        have h3' := List.nodup_cons.mp h3
        have z := k S' h1 (fun b hb _ => h2 b (List.mem_cons_of_mem _ hb) (by simp)) h3'.2
        have e := Owns.zero z
        subst e
        exact .sls ⟨q, h2 a List.mem_cons_self (by simp)⟩ z
      | succ m =>
        obtain ⟨F', sb, k⟩ := Owns.less r (m := m) (by omega)
        refine ⟨a :: F', sb.cons_cons a, fun S' h1 h2 h3 => ?_⟩
        have h3' := List.nodup_cons.mp h3
        refine .lst q (k S' h1 (fun b hb hn => h2 b (List.mem_cons_of_mem _ hb) fun hc => ?_) h3'.2)
        rcases List.mem_cons.mp hc with e | hc
        · subst e; exact h3'.1 hb
        · exact hn hc
  | dct _ _ => cases h
  | ins _ _ _ => cases h
theorem Owns.less {ts : List T} {n m : Nat} {vs : List V} {F : List Addr} (h : Owns K H S n ts vs F) (hm : m ≤ n) :
    ∃ F' : List Addr, F'.Sublist F ∧ ∀ S' : Addr → Prop, (∀ a, S a → S' a) → (∀ a ∈ F, a ∉ F' → S' a) → F.Nodup → Owns K H S' m ts vs F' := by
  cases ts with
  | nil => cases h; exact ⟨[], List.Sublist.refl _, fun _ _ _ _ => .nil⟩
  | cons t ts =>
    cases h with
    | @cons n t ts v vs F G a r =>
      obtain ⟨F', s1, k1⟩ := Own.less a hm
      obtain ⟨G', s2, k2⟩ := Owns.less r hm
      refine ⟨F' ++ G', s1.append s2, fun S' h1 h2 h3 => ?_⟩
      obtain ⟨n1, n2, n3⟩ := List.nodup_append.mp h3
      refine .cons (k1 S' h1 (fun b hb hn => h2 b (List.mem_append_left _ hb) fun hc => ?_) n1) (k2 S' h1 (fun b hb hn => h2 b (List.mem_append_right _ hb) fun hc => ?_) n2)
      · rcases List.mem_append.mp hc with hc | hc
        · exact hn hc
        · exact n3 b hb b (s2.subset hc) rfl
      · rcases List.mem_append.mp hc with hc | hc
        · exact n3 b (s1.subset hc) b hb rfl
        · exact hn hc
end
theorem kp_refl {F : List Addr} : Kp H H S F := ⟨fun _ _ e => e, fun _ _ _ e => e, fun _ _ _ e => e⟩
theorem Own.mono (hS : ∀ a, S a → S' a) {t : T} {n : Nat} {v : V} {F : List Addr} (h : Own K H S n t v F) : Own K H S' n t v F := h.keep hS kp_refl
theorem Owns.mono (hS : ∀ a, S a → S' a) {ts : List T} {n : Nat} {vs : List V} {F : List Addr} (h : Owns K H S n ts vs F) : Owns K H S' n ts vs F := Owns.keep hS h kp_refl
-- the nodes in S stand
mutual
theorem Own.trk {t : T} {n : Nat} {v : V} {F : List Addr} (h : Own K H S n t v F) : Own K H (fun a => S a ∧ H a ≠ none) n t v F := by
  cases t with
  | non => cases h; exact .non
  | bl _ => cases h; exact .bl _
  | int _ => cases h; exact .int _
  | str _ => cases h; exact .str _
  | scr _ =>
    cases h with
    | scr q => exact .scr q
  | tup ts =>
    cases h with
    | tupf q f r => exact .tupf q f (Owns.trk r)
    | tup0 q r => exact .tup0 q (Owns.trk r)
    | tup q r => exact .tup q (Owns.trk r)
  | lst ts =>
    cases h with
    | sls q r =>
      exact .sls ⟨q.1, q.2, fun z => by rw [q.1] at z; cases z⟩ (Owns.trk r)
    | lst q r => exact .lst q (Owns.trk r)
  | dct _ _ => cases h
  | ins _ _ _ => cases h
theorem Owns.trk {ts : List T} {n : Nat} {vs : List V} {F : List Addr} (h : Owns K H S n ts vs F) : Owns K H (fun a => S a ∧ H a ≠ none) n ts vs F := by
  cases ts with
  | nil => cases h; exact .nil
  | cons t ts =>
    cases h with
    | cons a r => exact .cons (Own.trk a) (Owns.trk r)
end
-- read as shared by whoever takes all that is owned for shared
mutual
theorem Own.shr {t : T} {n : Nat} {v : V} {F : List Addr} (h : Own K H S n t v F) (hS : ∀ a, S a → S' a) (hF : ∀ a ∈ F, S' a) : Shr K H S' t v := by
  cases t with
  | non => cases h; exact .non
  | bl _ => cases h; exact .bl _
  | int _ => cases h; exact .int _
  | str _ => cases h; exact .str _
  | scr _ =>
    cases h with
    | scr q => exact .scr q
  | tup ts =>
    cases h with
    | tupf q f r => exact .tup0 q (r.mono hS)
    | tup0 q r => exact .tup0 q (r.mono hS)
    | tup q r => exact .tup0 (SqT.of q) (Owns.shr r hS hF)
  | lst ts =>
    cases h with
    | sls q r => exact (Own.sls q r).mono hS
    | lst q r => exact .sls ⟨q, hF _ List.mem_cons_self⟩ (Owns.shr r hS fun a m => hF a (List.mem_cons_of_mem _ m))
  | dct _ _ => cases h
  | ins _ _ _ => cases h
theorem Owns.shr {ts : List T} {n : Nat} {vs : List V} {F : List Addr} (h : Owns K H S n ts vs F) (hS : ∀ a, S a → S' a) (hF : ∀ a ∈ F, S' a) : Shrs K H S' ts vs := by
  cases ts with
  | nil => cases h; exact .nil
  | cons t ts =>
    cases h with
    | cons a r =>
      have q := Owns.cons (Own.shr a hS fun b m => hF b (List.mem_append_left _ m)) (Owns.shr r hS fun b m => hF b (List.mem_append_right _ m))
      exact q
end
/-! ### reading shared values -/
theorem SqS.sq {a : Addr} {vs : List V} (h : SqS H S a vs) : SqL K H a vs := .inl (.inl h.1)
theorem SqF.sq {a : Addr} {vs : List V} (h : SqF K H a vs) : SqL K H a vs := by
  rcases h with h | h
  · exact .inl (.inr h)
  · exact .inr h
theorem shr_scr {ns : List Int} {v : V} (h : Shr K H S (.scr ns) v) : ∃ a, v = .ref a ∧ SqF K H a (ns.map V.int) := by
  cases h with
  | scr q => exact ⟨_, rfl, q⟩
theorem shr_lst {ts : List T} {v : V} (h : Shr K H S (.lst ts) v) : ∃ a vs, v = .ref a ∧ SqS H S a vs ∧ Shrs K H S ts vs := by
  cases h with
  | sls q r => exact ⟨_, _, rfl, q, r⟩
theorem shr_tup {ts : List T} {v : V} (h : Shr K H S (.tup ts) v) : ∃ a vs, v = .ref a ∧ SqT K H a vs ∧ Shrs K H S ts vs := by
  cases h with
  | tupf q _ r => exact ⟨_, _, rfl, q, r⟩
  | tup0 q r => exact ⟨_, _, rfl, q, r⟩
theorem shr_int {i : Int} {v : V} (h : Shr K H S (.int i) v) : v = .int i := by cases h; rfl
theorem shr_bl {i : Bool} {v : V} (h : Shr K H S (.bl i) v) : v = .bl i := by cases h; rfl
theorem shr_str {i : Str} {v : V} (h : Shr K H S (.str i) v) : v = .str i := by cases h; rfl
theorem shr_non {v : V} (h : Shr K H S .non v) : v = .non := by cases h; rfl
theorem Shrs.cons {t : T} {ts : List T} {v : V} {vs : List V} (a : Shr K H S t v) (r : Shrs K H S ts vs) : Shrs K H S (t :: ts) (v :: vs) := Owns.cons a r
theorem Shrs.uncons {t : T} {ts : List T} {vs : List V} (h : Shrs K H S (t :: ts) vs) : ∃ v r, vs = v :: r ∧ Shr K H S t v ∧ Shrs K H S ts r := by
  unfold Shrs at h
  generalize hF : ([] : List Addr) = F at h
  cases h with
  | @cons n t ts v vs F G a r =>
    have e1 := a.zero
    have e2 := Owns.zero r
    subst e1; subst e2
    exact ⟨_, _, rfl, a, r⟩
theorem Shrs.get : ∀ {ts : List T} {vs : List V} {i : Nat} {t : T}, Shrs K H S ts vs → ts[i]? = some t → ∃ v, vs[i]? = some v ∧ Shr K H S t v
  | [], _, _, _, _, e => by simp at e
  | t :: ts, vs, i, u, h, e => by
    obtain ⟨v, r, rfl, a, b⟩ := h.uncons
    cases i with
    | zero =>
      simp at e
      subst e
      exact ⟨v, rfl, a⟩
    | succ i => exact Shrs.get (i := i) b (by simpa using e)
theorem Shrs.append : ∀ {ts us : List T} {vs ws : List V}, Shrs K H S ts vs → Shrs K H S us ws → Shrs K H S (ts ++ us) (vs ++ ws)
  | [], _, _, _, h, g => by
    have e := h.length
    cases h
    exact g
  | t :: ts, us, vs, ws, h, g => by
    obtain ⟨v, r, rfl, a, b⟩ := h.uncons
    exact Shrs.cons a (Shrs.append b g)
theorem Shrs.take : ∀ {ts : List T} {vs : List V} (n : Nat), Shrs K H S ts vs → Shrs K H S (ts.take n) (vs.take n)
  | _, _, 0, _ => .nil
  | [], vs, n + 1, h => by cases h; exact .nil
  | t :: ts, vs, n + 1, h => by
    obtain ⟨v, r, rfl, a, b⟩ := h.uncons
    exact Shrs.cons a (Shrs.take n b)
theorem Shrs.drop : ∀ {ts : List T} {vs : List V} (n : Nat), Shrs K H S ts vs → Shrs K H S (ts.drop n) (vs.drop n)
  | _, _, 0, h => h
  | [], vs, n + 1, h => by cases h; exact .nil
  | t :: ts, vs, n + 1, h => by
    obtain ⟨v, r, rfl, a, b⟩ := h.uncons
    exact Shrs.drop n b
theorem Shrs.ints : ∀ {is : List Int} {vs : List V}, Shrs K H S (is.map T.int) vs → vs = is.map V.int
  | [], _, h => by cases h; rfl
  | i :: is, vs, h => by
    obtain ⟨v, r, rfl, a, b⟩ := h.uncons
    rw [shr_int a, Shrs.ints b]
    rfl
theorem Shrs.of_ints : ∀ {is : List Int}, Shrs K H S (is.map T.int) (is.map V.int)
  | [] => .nil
  | i :: is => Shrs.cons (Own.int i) Shrs.of_ints
end
end TL
set_option Elab.async false
set_option linter.all false
set_option maxRecDepth 100000
namespace TL
open PySem PySem.Spec PyProof.Rows L2

/-! ### what is known of a slot -/
abbrev St := L2.St
inductive Ent where
  | no | ow (n : Nat) (t : T) | io (n : Nat) (t : T) | ro (t : T) | al (j i : Nat) (t : T)
def Ent.tr : Ent → Option T
  | .no => none
  | .ow _ t => some t
  | .io _ t => some t
  | .ro t => some t
  | .al _ _ t => some t
def Ent.own : Ent → Option (Nat × T)
  | .ow n t => some (n, t)
  | .io n t => some (n, t)
  | _ => none
def Ent.put (t : T) : Ent → Ent
  | .ow n _ => .ow n t
  | .io n _ => .io n t
  | e => e
structure Root where
  e : Ent
  o : Option V
  F : List Addr
structure Fm where
  S0 : Addr → Prop
  H0 : Hp
  W : List Addr
  v0 : St
def SlotR (K : PySem.W.Frag) (H : Hp) (S : Addr → Prop) : Ent → Option V → List Addr → Prop
  | .no, _, F => F = []
  | .ow n t, o, F => ∃ v, o = some v ∧ Own K H S n t v F
  | .io n t, o, F => ∃ v, o = some v ∧ Own K H S n t v F
  | .ro t, o, F => F = [] ∧ ∃ v, o = some v ∧ Shr K H (fun _ => True) t v
  | .al _ _ _, o, F => F = [] ∧ ∃ v, o = some v
/-- the way down from a tree (at v) along places to a part of it -/
inductive Way (H : Hp) : T → V → List Nat → T → V → Prop
  | nil {t : T} {v : V} : Way H t v [] t v
  | lst {b : Addr} {vs : List V} {ts : List T} {i : Nat} {t1 t2 : T} {v1 v2 : V} {p : List Nat} : H b = some (.lst vs) → vs[i]? = some v1 → ts[i]? = some t1 → Way H t1 v1 p t2 v2 → Way H (.lst ts) (.ref b) (i :: p) t2 v2
  | tup {b : Addr} {vs : List V} {ts : List T} {i : Nat} {t1 t2 : T} {v1 v2 : V} {p : List Nat} : H b = some (.tup vs) → vs[i]? = some v1 → ts[i]? = some t1 → Way H t1 v1 p t2 v2 → Way H (.tup ts) (.ref b) (i :: p) t2 v2
/-- slot k holds item i of what slot j owns -/
structure AlOk (K : PySem.W.Frag) (H : Hp) (S : Addr → Prop) (rs : List Root) (σ : St) (k j i : Nat) (t : T) : Prop where
  ex : ∃ (r : Root) (n : Nat) (U : T) (v0 v : V) (Fi : List Addr), rs[j]? = some r ∧ r.e.own = some (n + 1, U) ∧ r.o = some v0 ∧ σ[k]? = some (some v) ∧ Way H U v0 [i] t v ∧ Own K H S n t v Fi ∧ ∀ b ∈ Fi, b ∈ r.F
structure Good (K : PySem.W.Frag) (f : Fm) (S : Addr → Prop) (rs : List Root) (H : Hp) : Prop where
  slot : ∀ (k : Nat) r, rs[k]? = some r → SlotR K H S r.e r.o r.F ∧ r.F.Nodup ∧ ∀ a ∈ r.F, ¬ S a ∧ (f.H0 a = none ∨ a ∈ f.W)
  dj : ∀ (k l : Nat) r q, rs[k]? = some r → rs[l]? = some q → k ≠ l → ∀ a ∈ r.F, a ∉ q.F
  trk : ∀ a, S a → H a ≠ none
  fr : ∀ a o, f.H0 a = some o → a ∉ f.W → H a = some o
  src : ∀ a, S a → f.S0 a ∨ f.H0 a = none ∨ a ∈ f.W
structure StaW (K : PySem.W.Frag) (f : Fm) (τ : List Root) (ρ : List Ent) (σ : St) (H : Hp) (S : Addr → Prop) (rs : List Root) : Prop where
  e : rs.map (·.e) = ρ
  o : rs.map (·.o) = σ
  good : Good K f S (rs ++ τ) H
  al : ∀ k j i t, ρ[k]? = some (.al j i t) → AlOk K H S rs σ k j i t
  io : ∀ (i : Nat) n t, ρ[i]? = some (.io n t) → σ[i]? = f.v0[i]?
  tm : ∀ r ∈ τ, ∃ n t, r.e = .ow n t
def Sta (K : PySem.W.Frag) (f : Fm) (τ : List Root) (ρ : List Ent) (σ : St) (H : Hp) : Prop := ∃ S rs, StaW K f τ ρ σ H S rs

/-! ### reading -/
def RdS (K : PySem.W.Frag) (S : Addr → Prop) (ρ : List Ent) (σ : St) (H : Hp) : Prop := ∀ (i : Nat) e t, ρ[i]? = some e → e.tr = some t → ∃ v, σ[i]? = some (some v) ∧ Shr K H S t v
def fresh (S : Addr → Prop) (H : Hp) : Addr → Prop := fun a => S a ∨ H a = none
def shE : Ent → Ent
  | .ow 0 t => .ow 0 t
  | _ => .no
def shOnly (ρ : List Ent) : List Ent := ρ.map shE
def noRo (js : List Nat) : Ent → Ent
  | .ro _ => .no
  | .al j i t => if j ∈ js then .no else .al j i t
  | e => e
def killJ (js : List Nat) (ρ : List Ent) : List Ent := ρ.map (noRo js)
def noRA : Ent → Ent
  | .ro _ => .no
  | .al _ _ _ => .no
  | e => e
def notIn (js : List Nat) (ρ : List Ent) : List Ent := js.foldl (fun ρ j => ρ.set j .no) (ρ.map noRA)
def noAl (i : Nat) : Ent → Ent
  | .al j k t => if j = i then .no else .al j k t
  | e => e
def killA (i : Nat) (ρ : List Ent) : List Ent := ρ.map (noAl i)
def setE (ρ : List Ent) (i : Nat) (e : Ent) : List Ent := (killA i ρ).set i e

section
variable {K : PySem.W.Frag} {f : Fm} {S S' : Addr → Prop} {H H' : Hp} {τ rs rs' : List Root} {ρ ρ' : List Ent} {σ : St}
theorem RdS.same (r : RdS K S ρ σ H) (s : Same H H') : RdS K (fresh S H) ρ σ H' := fun i e t h1 h2 => by
  obtain ⟨v, h3, h4⟩ := r i e t h1 h2
  exact ⟨v, h3, h4.keep (fun _ => .inl) (.same s)⟩
theorem RdS.mono (r : RdS K S ρ σ H) (hS : ∀ a, S a → S' a) : RdS K S' ρ σ H := fun i e t h1 h2 => by
  obtain ⟨v, h3, h4⟩ := r i e t h1 h2
  exact ⟨v, h3, h4.mono hS⟩
theorem fresh_trans (s : Same H H') {a : Addr} (h : fresh (fresh S H) H' a) : fresh S H a := by
  rcases h with h | h
  · exact h
  · exact .inr (s.free h)
theorem SlotR.rd {e : Ent} {o : Option V} {F : List Addr} {t : T} (h : SlotR K H S e o F) (ht : e.tr = some t) (ha : ∀ j i u, e ≠ .al j i u) : ∃ v, o = some v ∧ Shr K H (fun _ => True) t v := by
  cases e with
  | no => cases ht
  | ow n u => cases ht; obtain ⟨v, e, q⟩ := h; exact ⟨v, e, q.shr (fun _ _ => trivial) (fun _ _ => trivial)⟩
  | io n u => cases ht; obtain ⟨v, e, q⟩ := h; exact ⟨v, e, q.shr (fun _ _ => trivial) (fun _ _ => trivial)⟩
  | ro u => cases ht; exact h.2
  | al j i u => exact absurd rfl (ha j i u)
theorem SlotR.own {e : Ent} {o : Option V} {F : List Addr} {n : Nat} {t : T} (h : SlotR K H S e o F) (ht : e.own = some (n, t)) : ∃ v, o = some v ∧ Own K H S n t v F := by
  cases e with
  | no => cases ht
  | ow n u => cases ht; exact h
  | io n u => cases ht; exact h
  | ro u => cases ht
  | al j i u => cases ht
theorem StaW.get (s : StaW K f τ ρ σ H S rs) {i : Nat} {e : Ent} (h : ρ[i]? = some e) : ∃ r, (rs ++ τ)[i]? = some r ∧ r.e = e ∧ σ[i]? = some r.o ∧ rs[i]? = some r := by
  have h' := h
  rw [← s.e, List.getElem?_map] at h'
  cases q : rs[i]? with
  | none => rw [q] at h'; cases h'
  | some r =>
    rw [q] at h'
    refine ⟨r, ?_, Option.some.inj h', ?_, rfl⟩
    · rw [List.getElem?_append_left (List.getElem?_eq_some_iff.mp q).1]; exact q
    · rw [← s.o, List.getElem?_map, q]; rfl
theorem StaW.len (s : StaW K f τ ρ σ H S rs) : rs.length = ρ.length := by rw [← s.e, List.length_map]
theorem StaW.lenσ (s : StaW K f τ ρ σ H S rs) : rs.length = σ.length := by rw [← s.o, List.length_map]
theorem StaW.rdAll (s : StaW K f τ ρ σ H S rs) : RdS K (fun _ => True) ρ σ H := fun i e t h1 h2 => by
  cases ea : e with
  | al j i' u =>
    subst ea
    cases h2
    obtain ⟨r, n, U, v0, v, Fi, _, _, _, a4, _, a6, _⟩ := (s.al i j i' t h1).ex
    exact ⟨v, a4, a6.shr (fun _ _ => trivial) (fun _ _ => trivial)⟩
  | _ =>
    obtain ⟨r, q1, q2, q3, _⟩ := s.get h1
    obtain ⟨v, e, h⟩ := (s.good.slot i r q1).1.rd (q2 ▸ h2) (by rw [q2, ea]; intro _ _ _ z; cases z)
    exact ⟨v, by rw [q3, e], h⟩
theorem Sta.rdAll (s : Sta K f τ ρ σ H) : RdS K (fun _ => True) ρ σ H := let ⟨_, _, s⟩ := s; s.rdAll
theorem StaW.rdSh (s : StaW K f τ ρ σ H S rs) : RdS K S (shOnly ρ) σ H := fun i e t h1 h2 => by
  unfold shOnly at h1
  rw [List.getElem?_map] at h1
  cases q : ρ[i]? with
  | none => rw [q] at h1; cases h1
  | some e0 =>
    rw [q] at h1
    have h1 := Option.some.inj h1
    subst h1
    obtain ⟨r, q1, rfl, q3, _⟩ := s.get q
    have z := (s.good.slot i r q1).1
    cases er : r.e with
    | ow n u =>
      cases n with
      | zero =>
        rw [er] at h2 z
        cases h2
        obtain ⟨v, e, h⟩ := z
        have e2 := h.zero
        rw [e2] at h
        exact ⟨v, by rw [q3, e], h⟩
      | succ n => rw [er] at h2; cases h2
    | no => rw [er] at h2; cases h2
    | io _ _ => rw [er] at h2; cases h2
    | ro _ => rw [er] at h2; cases h2
    | al _ _ _ => rw [er] at h2; cases h2

/-! ### keeping the state -/
theorem SlotR.keep {e : Ent} {o : Option V} {F : List Addr} (h : SlotR K H S e o F) (hS : ∀ a, S a → S' a) (k : Kp H H' S F) (kr : ∀ t, e = .ro t → Kp H H' (fun _ => True) []) : SlotR K H' S' e o F := by
  cases e with
  | no => exact h
  | ow n u => obtain ⟨v, e, q⟩ := h; exact ⟨v, e, q.keep hS k⟩
  | io n u => obtain ⟨v, e, q⟩ := h; exact ⟨v, e, q.keep hS k⟩
  | ro u => obtain ⟨e, v, e2, q⟩ := h; exact ⟨e, v, e2, q.keep (fun _ z => z) (kr u rfl)⟩
  | al j i u => exact h
theorem Way.same {t u : T} {v x : V} {p : List Nat} (w : Way H t v p u x) (s : Same H H') : Way H' t v p u x := by
  induction w with
  | nil => exact .nil
  | lst h1 h2 h3 _ ih => exact .lst (s _ _ h1) h2 h3 ih
  | tup h1 h2 h3 _ ih => exact .tup (s _ _ h1) h2 h3 ih
theorem AlOk.same {k j i : Nat} {t : T} (h : AlOk K H S rs σ k j i t) (s : Same H H') : AlOk K H' S rs σ k j i t := by
  obtain ⟨r, n, U, v0, v, Fi, a1, a2, a3, a4, a5, a6, a7⟩ := h.ex
  exact ⟨⟨r, n, U, v0, v, Fi, a1, a2, a3, a4, a5.same s, a6.keep (fun _ z => z) (.same s), a7⟩⟩
theorem AlOk.mono {k j i : Nat} {t : T} (h : AlOk K H S rs σ k j i t) (hS : ∀ a, S a → S' a) : AlOk K H S' rs σ k j i t := by
  obtain ⟨r, n, U, v0, v, Fi, a1, a2, a3, a4, a5, a6, a7⟩ := h.ex
  exact ⟨⟨r, n, U, v0, v, Fi, a1, a2, a3, a4, a5, a6.mono hS, a7⟩⟩
theorem StaW.same (s : StaW K f τ ρ σ H S rs) (k : Same H H') : StaW K f τ ρ σ H' S rs where
  e := s.e
  o := s.o
  good := ⟨fun m r e => let ⟨a, b, c⟩ := s.good.slot m r e; ⟨a.keep (fun _ z => z) (.same k) (fun _ _ => .same k), b, c⟩, s.good.dj, fun a h z => s.good.trk a h (k.free z), fun a o h1 h2 => k _ _ (s.good.fr a o h1 h2), s.good.src⟩
  al := fun k' j i t h => (s.al k' j i t h).same k
  io := s.io
  tm := s.tm
theorem Sta.same (s : Sta K f τ ρ σ H) (k : Same H H') : Sta K f τ ρ σ H' := let ⟨S, rs, s⟩ := s; ⟨S, rs, s.same k⟩
/-- fewer roots, weaker roots -/
theorem Good.pick (G : Good K f S rs H) (g : Nat → Nat) (old : ∀ m r, rs'[m]? = some r → (r.e = .no ∧ r.F = []) ∨ rs[g m]? = some r)
    (inj : ∀ m l r q, rs'[m]? = some r → rs'[l]? = some q → r.F ≠ [] → q.F ≠ [] → g m = g l → m = l) : Good K f S rs' H where
  slot := fun m r e => by
    rcases old m r e with ⟨h2, h3⟩ | h1
    · refine ⟨?_, by rw [h3]; exact List.nodup_nil, fun a z => by rw [h3] at z; cases z⟩
      rw [h2]; exact h3
    · exact G.slot _ _ h1
  dj := fun m l r q e1 e2 ne a ha hb => by
    rcases old m r e1 with ⟨_, h2⟩ | h1
    · rw [h2] at ha; cases ha
    · rcases old l q e2 with ⟨_, h4⟩ | h3
      · rw [h4] at hb; cases hb
      · exact G.dj _ _ _ _ h1 h3 (fun z => ne (inj m l r q e1 e2 (List.ne_nil_of_mem ha) (List.ne_nil_of_mem hb) z)) a ha hb
  trk := G.trk
  fr := G.fr
  src := G.src
/-- the k-th root anew, the heap changed, more in S -/
theorem Good.repl (G : Good K f S rs H) (g : Nat → Nat) (k : Nat) {r' : Root} (hk : rs'[k]? = some r')
    (old : ∀ m r, m ≠ k → rs'[m]? = some r → (r.e = .no ∧ r.F = []) ∨ rs[g m]? = some r)
    (inj : ∀ m l r q, m ≠ k → l ≠ k → rs'[m]? = some r → rs'[l]? = some q → r.F ≠ [] → q.F ≠ [] → g m = g l → m = l)
    (new : SlotR K H' S' r'.e r'.o r'.F) (nd : r'.F.Nodup) (nS : ∀ a ∈ r'.F, ¬ S' a ∧ (f.H0 a = none ∨ a ∈ f.W)) (ndj : ∀ a ∈ r'.F, ∀ m q, m ≠ k → rs'[m]? = some q → rs[g m]? = some q → a ∉ q.F)
    (hS : ∀ a, S a → S' a) (hS' : ∀ m q, m ≠ k → rs'[m]? = some q → rs[g m]? = some q → ∀ a ∈ q.F, ¬ S' a)
    (kp : ∀ m q, m ≠ k → rs'[m]? = some q → rs[g m]? = some q → Kp H H' S q.F ∧ (∀ t, q.e = .ro t → Kp H H' (fun _ => True) []))
    (trk : ∀ a, S' a → H' a ≠ none) (fr : ∀ a o, f.H0 a = some o → a ∉ f.W → H' a = some o) (src : ∀ a, S' a → f.S0 a ∨ f.H0 a = none ∨ a ∈ f.W) : Good K f S' rs' H' where
  slot := fun m r e => by
    by_cases hm : m = k
    · subst hm
      rw [hk] at e; cases e
      exact ⟨new, nd, nS⟩
    · rcases old m r hm e with ⟨h2, h3⟩ | h1
      · refine ⟨?_, by rw [h3]; exact List.nodup_nil, fun a z => by rw [h3] at z; cases z⟩
        rw [h2]; exact h3
      · obtain ⟨a, b, c⟩ := G.slot _ _ h1
        obtain ⟨kp1, kp2⟩ := kp m r hm e h1
        exact ⟨a.keep hS kp1 kp2, b, fun x hx => ⟨hS' m r hm e h1 x hx, (c x hx).2⟩⟩
  dj := fun m l r q e1 e2 ne a ha hb => by
    by_cases hm : m = k
    · subst hm
      rw [hk] at e1; cases e1
      have hl : l ≠ m := fun z => ne z.symm
      rcases old l q hl e2 with ⟨_, h4⟩ | h3
      · rw [h4] at hb; cases hb
      · exact ndj a ha l q hl e2 h3 hb
    · rcases old m r hm e1 with ⟨_, h2⟩ | h1
      · rw [h2] at ha; cases ha
      · by_cases hl : l = k
        · subst hl
          rw [hk] at e2; cases e2
          exact ndj a hb m r hm e1 h1 ha
        · rcases old l q hl e2 with ⟨_, h4⟩ | h3
          · rw [h4] at hb; cases hb
          · exact G.dj _ _ _ _ h1 h3 (fun z => ne (inj m l r q hm hl e1 e2 (List.ne_nil_of_mem ha) (List.ne_nil_of_mem hb) z)) a ha hb
  trk := trk
  fr := fr
  src := src
end
end TL
set_option Elab.async false
set_option linter.all false
set_option maxRecDepth 100000
namespace TL
open PySem PySem.Spec PyProof.Rows L2

abbrev tmp (n : Nat) (t : T) (v : V) (F : List Addr) : Root := ⟨.ow n t, some v, F⟩
theorem getElem?_app {α : Type} {l r : List α} {i : Nat} {x : α} (h : l[i]? = some x) : (l ++ r)[i]? = some x := by
  rw [List.getElem?_append_left (List.getElem?_eq_some_iff.mp h).1]; exact h
theorem app_old {α : Type} {l r : List α} {x : α} {m : Nat} {y : α} (h : (l ++ r ++ [x])[m]? = some y) : (m = (l ++ r).length ∧ y = x) ∨ (m < (l ++ r).length ∧ (l ++ r)[m]? = some y) := by
  by_cases hm : m < (l ++ r).length
  · exact .inr ⟨hm, by rw [List.getElem?_append_left hm] at h; exact h⟩
  · have hl := (List.getElem?_eq_some_iff.mp h).1
    rw [List.length_append, List.length_singleton] at hl
    have e : m = (l ++ r).length := by omega
    rw [e, List.getElem?_append_right (Nat.le_refl _), Nat.sub_self] at h
    exact .inl ⟨e, by simpa using h.symm⟩
theorem getElem?_last {α : Type} {l : List α} {x : α} : (l ++ [x])[l.length]? = some x := by
  rw [List.getElem?_append_right (Nat.le_refl _), Nat.sub_self]; rfl
section
variable {K : PySem.W.Frag} {f : Fm} {S S' : Addr → Prop} {H H' : Hp} {τ τ' rs rs' : List Root} {ρ ρ' : List Ent} {σ : St}
theorem Good.own_there (G : Good K f S rs H) {k : Nat} {r : Root} (h : rs[k]? = some r) {a : Addr} (ha : a ∈ r.F) : ∃ vs, H a = some (.lst vs) := by
  have z := (G.slot k r h).1
  cases e : r.e with
  | no =>
    have z' : r.F = [] := by rw [e] at z; exact z
    rw [z'] at ha; cases ha
  | ow n u => rw [e] at z; obtain ⟨v, _, q⟩ := z; exact q.there a ha
  | io n u => rw [e] at z; obtain ⟨v, _, q⟩ := z; exact q.there a ha
  | ro u =>
    have z' : r.F = [] := by rw [e] at z; exact z.1
    rw [z'] at ha; cases ha
  | al j i u =>
    have z' : r.F = [] := by rw [e] at z; exact z.1
    rw [z'] at ha; cases ha
theorem Good.none_src (G : Good K f S rs H) {a : Addr} (h : H a = none) : f.H0 a = none ∨ a ∈ f.W := by
  by_cases w : a ∈ f.W
  · exact .inr w
  · cases q : f.H0 a with
    | none => exact .inl rfl
    | some o => rw [G.fr a o q w] at h; cases h
/-- what came new may be shared -/
def grown (S : Addr → Prop) (H H' : Hp) : Addr → Prop := fun a => fresh S H a ∧ H' a ≠ none
theorem StaW.grow (s : StaW K f τ ρ σ H S rs) (k : Same H H') : StaW K f τ ρ σ H' (grown S H H') rs where
  e := s.e
  o := s.o
  good := {
    slot := fun m r e => by
      obtain ⟨a, b, c⟩ := s.good.slot m r e
      refine ⟨a.keep (fun x z => ⟨.inl z, fun y => s.good.trk x z (k.free y)⟩) (.same k) (fun _ _ => .same k), b, fun x hx => ⟨fun z => ?_, (c x hx).2⟩⟩
      rcases z.1 with z | z
      · exact (c x hx).1 z
      · obtain ⟨vs, e2⟩ := s.good.own_there e hx
        rw [z] at e2; cases e2
    dj := s.good.dj
    trk := fun a h => h.2
    fr := fun a o h1 h2 => k _ _ (s.good.fr a o h1 h2)
    src := fun a h => by
      rcases h.1 with z | z
      · exact s.good.src a z
      · exact .inr (s.good.none_src z) }
  al := fun k' j i t h => ((s.al k' j i t h).same k).mono fun x z => ⟨.inl z, fun y => s.good.trk x z (k.free y)⟩
  io := s.io
  tm := s.tm
theorem shr_grown {t : T} {v : V} (h : Shr K H' (fresh S H) t v) : Shr K H' (grown S H H') t v := h.trk
theorem tm_app (h : ∀ r ∈ τ, ∃ n t, r.e = .ow n t) {r : Root} (hr : ∃ n t, r.e = .ow n t) : ∀ q ∈ τ ++ [r], ∃ n t, q.e = .ow n t := fun q hq => by
  rcases List.mem_append.mp hq with hq | hq
  · exact h q hq
  · rw [List.mem_singleton.mp hq]; exact hr
/-- a shared value held -/
theorem StaW.pushS (s : StaW K f τ ρ σ H S rs) {t : T} {v : V} (h : Shr K H S t v) : StaW K f (τ ++ [tmp 0 t v []]) ρ σ H S rs where
  e := s.e
  o := s.o
  good := by
    rw [← List.append_assoc]
    exact {
      slot := fun m r e => by
        rcases app_old e with ⟨_, rfl⟩ | ⟨_, e⟩
        · exact ⟨⟨v, rfl, h⟩, List.nodup_nil, fun a z => nomatch z⟩
        · exact s.good.slot m r e
      dj := fun m l r q e1 e2 ne a ha hb => by
        rcases app_old e1 with ⟨_, rfl⟩ | ⟨_, e1⟩
        · cases ha
        · rcases app_old e2 with ⟨_, rfl⟩ | ⟨_, e2⟩
          · cases hb
          · exact s.good.dj m l r q e1 e2 ne a ha hb
      trk := s.good.trk
      fr := s.good.fr
      src := s.good.src }
  al := s.al
  io := s.io
  tm := tm_app s.tm ⟨_, _, rfl⟩
/-- a new owned list held -/
theorem StaW.pushNew (s : StaW K f τ ρ σ H S rs) {p : Addr} (hp : H p = none) {n : Nat} {ts : List T} {vs : List V} (h : Owns K (upd H p (.lst vs)) S n ts vs []) : StaW K f (τ ++ [tmp (n + 1) (.lst ts) (.ref p) [p]]) ρ σ (upd H p (.lst vs)) S rs := by
  have k : Same H (upd H p (.lst vs)) := fun b o e => by rw [upd_ne (ne_of_none e hp)]; exact e
  have s' := s.same k
  refine ⟨s.e, s.o, ?_, s'.al, s.io, tm_app s.tm ⟨_, _, rfl⟩⟩
  rw [← List.append_assoc]
  have nw : ∀ {m : Nat} {r : Root}, (rs ++ τ)[m]? = some r → p ∉ r.F := fun e hm => by
    obtain ⟨vs, q⟩ := s.good.own_there e hm
    rw [hp] at q; cases q
  exact {
    slot := fun m r e => by
      rcases app_old e with ⟨_, rfl⟩ | ⟨_, e⟩
      · refine ⟨⟨.ref p, rfl, .lst upd_same h⟩, by simp, fun a z => ?_⟩
        have e : a = p := by simpa using z
        subst e
        exact ⟨fun z => s.good.trk a z hp, s.good.none_src hp⟩
      · exact s'.good.slot m r e
    dj := fun m l r q e1 e2 ne a ha hb => by
      rcases app_old e1 with ⟨d1, rfl⟩ | ⟨_, g1⟩
      · have e : a = p := by simpa using ha
        rcases app_old e2 with ⟨d2, rfl⟩ | ⟨_, g2⟩
        · exact ne (d1.trans d2.symm)
        · exact nw g2 (e ▸ hb)
      · rcases app_old e2 with ⟨_, rfl⟩ | ⟨_, g2⟩
        · have e : a = p := by simpa using hb
          exact nw g1 (e ▸ ha)
        · exact s.good.dj m l r q g1 g2 ne a ha hb
    trk := s'.good.trk
    fr := s'.good.fr
    src := s.good.src }
theorem StaW.pop (s : StaW K f (τ ++ τ') ρ σ H S rs) : StaW K f τ ρ σ H S rs where
  e := s.e
  o := s.o
  good := s.good.pick (fun m => m) (fun m r e => .inr (by rw [← List.append_assoc]; exact getElem?_app e)) fun _ _ _ _ _ _ _ _ z => z
  al := s.al
  io := s.io
  tm := fun r h => s.tm r (List.mem_append_left _ h)
theorem Sta.pop (s : Sta K f (τ ++ τ') ρ σ H) : Sta K f τ ρ σ H := let ⟨S, rs, s⟩ := s; ⟨S, rs, s.pop⟩

/-! ### slots stored -/
theorem noAl_cases (i : Nat) (e : Ent) : noAl i e = e ∨ (∃ k t, e = .al i k t ∧ noAl i e = .no) := by
  cases e with
  | al j k t =>
    by_cases h : j = i
    · subst h; exact .inr ⟨k, t, rfl, by simp [noAl]⟩
    · exact .inl (by simp [noAl, h])
  | no => exact .inl rfl
  | ow _ _ => exact .inl rfl
  | io _ _ => exact .inl rfl
  | ro _ => exact .inl rfl
theorem noAl_own (i : Nat) (e : Ent) : (noAl i e).own = e.own := by
  rcases noAl_cases i e with h | ⟨k, t, h, h2⟩
  · rw [h]
  · rw [h2, h]; rfl
theorem noAl_al {i j k : Nat} {e : Ent} {t : T} (h : noAl i e = .al j k t) : e = .al j k t ∧ j ≠ i := by
  cases e with
  | al j' k' t' =>
    by_cases hj : j' = i
    · simp [noAl, hj] at h
    · simp [noAl, hj] at h
      obtain ⟨rfl, rfl, rfl⟩ := h
      exact ⟨rfl, hj⟩
  | no => cases h
  | ow _ _ => cases h
  | io _ _ => cases h
  | ro _ => cases h
theorem noAl_io {i : Nat} {e : Ent} {n : Nat} {t : T} (h : noAl i e = .io n t) : e = .io n t := by
  rcases noAl_cases i e with q | ⟨k, u, _, q⟩
  · rw [← q]; exact h
  · rw [q] at h; cases h
theorem setE_get {ρ : List Ent} {i k : Nat} {x e : Ent} (h : (setE ρ i e)[k]? = some x) (ne : k ≠ i) : ∃ y, ρ[k]? = some y ∧ x = noAl i y := by
  unfold setE at h
  rw [List.getElem?_set_ne (Ne.symm ne)] at h
  unfold killA at h
  rw [List.getElem?_map] at h
  cases q : ρ[k]? with
  | none => rw [q] at h; cases h
  | some y => rw [q] at h; exact ⟨y, rfl, (Option.some.inj h).symm⟩
theorem setE_same {ρ : List Ent} {i : Nat} {x e : Ent} (h : (setE ρ i e)[i]? = some x) : x = e := by
  unfold setE at h
  have hl := (List.getElem?_eq_some_iff.mp h).1
  rw [List.length_set] at hl
  rw [List.getElem?_set_self hl] at h
  exact (Option.some.inj h).symm
theorem setE_other {ρ : List Ent} {i j : Nat} {e : Ent} (ne : j ≠ i) : (setE ρ i e)[j]?.bind Ent.own = ρ[j]?.bind Ent.own := by
  unfold setE killA
  rw [List.getElem?_set_ne (Ne.symm ne), List.getElem?_map]
  cases q : ρ[j]? with
  | none => rfl
  | some y => exact noAl_own i y
def Root.noAl (i : Nat) (r : Root) : Root := ⟨TL.noAl i r.e, r.o, r.F⟩
theorem StaW.alF (s : StaW K f τ ρ σ H S rs) {m : Nat} {r : Root} (h : (rs ++ τ)[m]? = some r) {j k : Nat} {t : T} (e : r.e = .al j k t) : r.F = [] := by
  have z := (s.good.slot m r h).1
  rw [e] at z
  exact z.1
/-- the last temporary goes into slot i -/
theorem StaW.setV {i n : Nat} {t : T} {v : V} {F : List Addr} (s : StaW K f (τ ++ [tmp n t v F]) ρ σ H S rs) (hi : i < ρ.length) : StaW K f τ (setE ρ i (.ow n t)) (σ.set i (some v)) H S ((rs.map (Root.noAl i)).set i (tmp n t v F)) where
  e := by
    rw [List.map_set, List.map_map]
    unfold setE killA
    rw [← s.e, List.map_map]
    rfl
  o := by
    rw [List.map_set, List.map_map]
    show (List.map (fun r => r.o) rs).set i (some v) = σ.set i (some v)
    rw [s.o]
  good := by
    have hl := s.len
    have len : ((rs.map (Root.noAl i)).set i (tmp n t v F)).length = rs.length := by rw [List.length_set, List.length_map]
    refine s.good.pick (fun m => if m = i then rs.length + τ.length else m) (fun m r e => ?_) fun a b ra rb ha hb _ _ z => ?_
    · by_cases hm : m = i
      · subst hm
        rw [if_pos rfl]
        right
        rw [List.getElem?_append_left (by omega), List.getElem?_set_self (by rw [List.length_map]; omega)] at e
        rw [← Option.some.inj e, ← List.append_assoc]
        have := getElem?_last (l := rs ++ τ) (x := tmp n t v F)
        rw [List.length_append] at this
        exact this
      · rw [if_neg hm]
        by_cases hlt : m < rs.length
        · rw [List.getElem?_append_left (by omega), List.getElem?_set_ne (Ne.symm hm), List.getElem?_map] at e
          cases q : rs[m]? with
          | none => rw [q] at e; cases e
          | some r0 =>
            rw [q] at e
            have e := (Option.some.inj e).symm
            rcases noAl_cases i r0.e with h | ⟨k, u, h, h2⟩
            · right
              rw [e]
              unfold Root.noAl
              rw [h]
              exact getElem?_app q
            · left
              rw [e]
              exact ⟨h2, show r0.F = [] from s.alF (getElem?_app q) h⟩
        · rw [List.getElem?_append_right (by omega), len] at e
          right
          rw [List.getElem?_append_right (by omega)]
          exact getElem?_app e
    · have ha := (List.getElem?_eq_some_iff.mp ha).1
      have hb := (List.getElem?_eq_some_iff.mp hb).1
      rw [List.length_append, len] at ha hb
      by_cases h1 : a = i
      · by_cases h2 : b = i
        · omega
        · rw [if_pos h1, if_neg h2] at z; omega
      · by_cases h2 : b = i
        · rw [if_neg h1, if_pos h2] at z; omega
        · rw [if_neg h1, if_neg h2] at z; exact z
  al := fun k j l u h => by
    by_cases hk : k = i
    · subst hk
      have := setE_same h
      cases this
    · obtain ⟨y, hy, e⟩ := setE_get h hk
      obtain ⟨e2, nj⟩ := noAl_al e.symm
      subst e2
      obtain ⟨r, n', U, v0, v1, Fi, a1, a2, a3, a4, a5, a6, a7⟩ := (s.al k j l u hy).ex
      refine ⟨⟨r.noAl i, n', U, v0, v1, Fi, ?_, ?_, a3, ?_, a5, a6, a7⟩⟩
      · rw [List.getElem?_set_ne (Ne.symm nj), List.getElem?_map, a1]; rfl
      · exact (noAl_own i r.e).trans a2
      · rw [List.getElem?_set_ne (Ne.symm hk)]; exact a4
  io := fun k n' u h => by
    by_cases hk : k = i
    · subst hk
      have := setE_same h
      cases this
    · obtain ⟨y, hy, e⟩ := setE_get h hk
      have e2 := noAl_io e.symm
      subst e2
      rw [List.getElem?_set_ne (Ne.symm hk)]
      exact s.io k n' u hy
  tm := fun r h => s.tm r (List.mem_append_left _ h)
theorem Sta.setV {i n : Nat} {t : T} {v : V} {F : List Addr} (s : Sta K f (τ ++ [tmp n t v F]) ρ σ H) (hi : i < ρ.length) : Sta K f τ (setE ρ i (.ow n t)) (σ.set i (some v)) H := let ⟨S, rs, s⟩ := s; ⟨S, _, s.setV hi⟩
end
end TL
set_option Elab.async false
set_option linter.all false
set_option maxRecDepth 100000
namespace TL
open PySem PySem.Spec PyProof.Rows L2

def T.put (x : T) : List Nat → T → T
  | [], _ => x
  | i :: p, .lst ts => .lst (ts.set i (T.put x p (ts.getD i .non)))
  | i :: p, .tup ts => .tup (ts.set i (T.put x p (ts.getD i .non)))
  | _ :: _, t => t
theorem set_self {α : Type} : ∀ {l : List α} {i : Nat} {x : α}, l[i]? = some x → l.set i x = l
  | [], _, _, h => by simp at h
  | a :: l, 0, x, h => by simp at h; subst h; rfl
  | a :: l, i + 1, x, h => by
    show a :: l.set i x = a :: l
    rw [set_self (by simpa using h)]
section
variable {K : PySem.W.Frag} {f : Fm} {S S' : Addr → Prop} {H H' : Hp} {τ τ' rs rs' : List Root} {ρ ρ' : List Ent} {σ : St}
theorem Owns.split : ∀ {ts : List T} {vs : List V} {F : List Addr} {n i : Nat} {t : T} {v : V}, Owns K H S n ts vs F → ts[i]? = some t → vs[i]? = some v →
    ∃ F1 Fi F2, F = F1 ++ Fi ++ F2 ∧ Own K H S n t v Fi ∧ ∀ (H' : Hp) (S' : Addr → Prop) (t' : T) (v' : V) (Fi' : List Addr), (∀ a, S a → S' a) → Kp H H' S F1 → Kp H H' S F2 → Own K H' S' n t' v' Fi' → Owns K H' S' n (ts.set i t') (vs.set i v') (F1 ++ Fi' ++ F2)
  | [], _, _, _, _, _, _, _, h, _ => by simp at h
  | u :: ts, _, _, n, 0, t, v, h, e1, e2 => by
    cases h with
    | @cons n t0 ts v0 vs F G a r =>
      simp at e1 e2
      subst e1; subst e2
      refine ⟨[], F, G, by simp, a, fun H' S' t' v' Fi' hS _ k2 a' => ?_⟩
      exact Owns.cons a' (r.keep hS k2)
  | u :: ts, _, _, n, i + 1, t, v, h, e1, e2 => by
    cases h with
    | @cons n t0 ts v0 vs F G a r =>
      obtain ⟨F1, Fi, F2, rfl, o, k⟩ := Owns.split (i := i) r (by simpa using e1) (by simpa using e2)
      refine ⟨F ++ F1, Fi, F2, by simp, o, fun H' S' t' v' Fi' hS k1 k2 a' => ?_⟩
      have z := Owns.cons (a.keep hS (k1.sub fun b m => List.mem_append_left _ m)) (k H' S' t' v' Fi' hS (k1.sub fun b m => List.mem_append_right _ m) k2 a')
      have e : F ++ (F1 ++ Fi' ++ F2) = F ++ F1 ++ Fi' ++ F2 := by simp
      rw [← e]
      exact z
theorem flat_no_way {t u : T} {v x : V} {p : List Nat} {ts : List T} (w : Way H t v p u x) (hu : u = .lst ts) (h : t.flat = true) : False := by
  induction w with
  | nil => subst hu; rw [T.flat, T.flatAt] at h; cases h
  | lst _ _ _ _ _ => rw [T.flat, T.flatAt] at h; cases h
  | tup _ _ h3 _ ih =>
    refine ih hu ?_
    rw [T.flat, T.flatAt, flatAts_iff] at h
    exact h _ (List.mem_of_getElem? h3)
theorem flat_way {t u : T} {v x : V} {p : List Nat} (w : Way H t v p u x) (h : t.flat = true) : u.flat = true := by
  induction w with
  | nil => exact h
  | lst _ _ _ _ _ => rw [T.flat, T.flatAt] at h; cases h
  | tup _ _ h3 _ ih =>
    refine ih ?_
    rw [T.flat, T.flatAt, flatAts_iff] at h
    exact h _ (List.mem_of_getElem? h3)
/-- a list that is owned, by its way: what it holds, and the whole with it changed -/
theorem Own.way {t0 u : T} {v0 x : V} {p : List Nat} (w : Way H t0 v0 p u x) : ∀ {ts : List T} {a : Addr} {n : Nat} {F : List Addr}, u = .lst ts → x = .ref a → Own K H S n t0 v0 F → p.length < n → F.Nodup →
    ∃ vs F1 Fs F2, F = F1 ++ a :: Fs ++ F2 ∧ H a = some (.lst vs) ∧ Owns K H S (n - p.length - 1) ts vs Fs ∧ (p ≠ [] → v0 ≠ .ref a) ∧
      ∀ (H' : Hp) (S' : Addr → Prop) (vs' : List V) (ts' : List T) (Fs' : List Addr), (∀ b, S b → S' b) → (∀ b xs, H b = some (.tup xs) → H' b = some (.tup xs)) → (∀ b o u, H b = some (.frz o u) → H' b = some (.frz o u)) →
        (∀ b xs, b ≠ a → (S b ∨ b ∈ F) → H b = some (.lst xs) → H' b = some (.lst xs)) → ¬ S a → H' a = some (.lst vs') → Owns K H' S' (n - p.length - 1) ts' vs' Fs' → Own K H' S' n (T.put (.lst ts') p t0) v0 (F1 ++ a :: Fs' ++ F2) := by
  induction w with
  | nil =>
    rintro ts a n F rfl rfl h hp nd
    cases h with
    | sls _ _ => exact absurd hp (by simp)
    | @lst n _ vs _ F q r =>
      refine ⟨vs, [], F, [], by simp, q, r, fun z => absurd rfl z, fun H' S' vs' ts' Fs' hS h1 h2 h3 _ h4 r' => ?_⟩
      have z := Own.lst h4 r'
      have e : ([] : List Addr) ++ a :: Fs' ++ [] = a :: Fs' := by simp
      rw [e]
      exact z
  | @lst b vs0 ts0 i t1 t2 v1 v2 p g1 g2 g3 w ih =>
    intro ts a n F hu hx h hp nd
    cases h with
    | sls _ _ => exact absurd hp (by simp)
    | @lst n _ vs2 _ F q r =>
      rw [g1] at q
      have e : vs0 = vs2 := HO.lst.inj (Option.some.inj q)
      subst e
      obtain ⟨G1, Fi, G2, rfl, o, k⟩ := Owns.split r g3 g2
      obtain ⟨nb, nd'⟩ := List.nodup_cons.mp nd
      have ndi : Fi.Nodup := (List.nodup_append.mp (List.nodup_append.mp nd').1).2.1
      obtain ⟨vs, F1, Fs, F2, rfl, q2, r2, _, k2⟩ := ih hu hx o (by simp at hp; omega) ndi
      have en : n + 1 - (i :: p).length - 1 = n - p.length - 1 := by rw [List.length_cons]; omega
      have ne : b ≠ a := fun z => by
        subst z
        exact nb (by simp)
      refine ⟨vs, b :: G1 ++ F1, Fs, F2 ++ G2, by simp, q2, by rw [en]; exact r2, fun _ z => ne (V.ref.inj z), fun H' S' vs' ts' Fs' hS h1 h2 h3 hSa h4 r' => ?_⟩
      rw [en] at r'
      obtain ⟨n1, n2, n3⟩ := List.nodup_append.mp nd'
      obtain ⟨n4, n5, n6⟩ := List.nodup_append.mp n1
      have kp1 : Kp H H' S G1 := ⟨h1, h2, fun c xs hc e => h3 c xs (fun z => by
        subst z
        rcases hc with hc | hc
        · exact hSa hc
        · exact n6 c hc c (by simp) rfl) (hc.imp_right fun m => by simp [m]) e⟩
      have kp2 : Kp H H' S G2 := ⟨h1, h2, fun c xs hc e => h3 c xs (fun z => by
        subst z
        rcases hc with hc | hc
        · exact hSa hc
        · exact n3 c (by simp) c hc rfl) (hc.imp_right fun m => by simp [m]) e⟩
      have z := k2 H' S' vs' ts' Fs' hS h1 h2 (fun c xs hc hd e => h3 c xs hc (hd.imp_right fun m => by
        simp at m ⊢
        rcases m with m | m | m | m <;> simp [m]) e) hSa h4 r'
      have z2 := k H' S' _ _ _ hS kp1 kp2 z
      rw [set_self g2] at z2
      have z3 := Own.lst (h3 b _ ne (.inr List.mem_cons_self) g1) z2
      have e1 : ts0.getD i T.non = t1 := by rw [List.getD_eq_getElem?_getD, g3]; rfl
      rw [T.put, e1]
      have e2 : b :: (G1 ++ (F1 ++ a :: Fs' ++ F2) ++ G2) = b :: G1 ++ F1 ++ a :: Fs' ++ (F2 ++ G2) := by simp
      rw [← e2]
      exact z3
  | @tup b vs0 ts0 i t1 t2 v1 v2 p g1 g2 g3 w ih =>
    intro ts a n F hu hx h hp nd
    cases h with
    | tupf _ f _ => exact (flat_no_way w hu (flatAts_iff.mp f _ (List.mem_of_getElem? g3))).elim
    | tup0 _ _ => exact absurd hp (by simp)
    | @tup n _ vs2 _ F q r =>
      rw [g1] at q
      have e : vs0 = vs2 := HO.tup.inj (Option.some.inj q)
      subst e
      obtain ⟨G1, Fi, G2, rfl, o, k⟩ := Owns.split r g3 g2
      have ndi : Fi.Nodup := (List.nodup_append.mp (List.nodup_append.mp nd).1).2.1
      obtain ⟨vs, F1, Fs, F2, rfl, q2, r2, _, k2⟩ := ih hu hx o (by simp at hp; omega) ndi
      have en : n + 1 - (i :: p).length - 1 = n - p.length - 1 := by rw [List.length_cons]; omega
      have ne : b ≠ a := fun z => by
        subst z
        rw [g1] at q2; cases q2
      refine ⟨vs, G1 ++ F1, Fs, F2 ++ G2, by simp, q2, by rw [en]; exact r2, fun _ z => ne (V.ref.inj z), fun H' S' vs' ts' Fs' hS h1 h2 h3 hSa h4 r' => ?_⟩
      rw [en] at r'
      obtain ⟨n1, n2, n3⟩ := List.nodup_append.mp nd
      obtain ⟨n4, n5, n6⟩ := List.nodup_append.mp n1
      have kp1 : Kp H H' S G1 := ⟨h1, h2, fun c xs hc e => h3 c xs (fun z => by
        subst z
        rcases hc with hc | hc
        · exact hSa hc
        · exact n6 c hc c (by simp) rfl) (hc.imp_right fun m => by simp [m]) e⟩
      have kp2 : Kp H H' S G2 := ⟨h1, h2, fun c xs hc e => h3 c xs (fun z => by
        subst z
        rcases hc with hc | hc
        · exact hSa hc
        · exact n3 c (by simp) c hc rfl) (hc.imp_right fun m => by simp [m]) e⟩
      have z := k2 H' S' vs' ts' Fs' hS h1 h2 (fun c xs hc hd e => h3 c xs hc (hd.imp_right fun m => by
        simp at m ⊢
        rcases m with m | m | m | m <;> simp [m]) e) hSa h4 r'
      have z2 := k H' S' _ _ _ hS kp1 kp2 z
      rw [set_self g2] at z2
      have z3 := Own.tup (h1 b _ g1) z2
      have e1 : ts0.getD i T.non = t1 := by rw [List.getD_eq_getElem?_getD, g3]; rfl
      rw [T.put, e1]
      have e2 : (G1 ++ (F1 ++ a :: Fs' ++ F2) ++ G2) = G1 ++ F1 ++ a :: Fs' ++ (F2 ++ G2) := by simp
      rw [← e2]
      exact z3

/-- the part at the end of a way is owned as deep as is left -/
theorem Own.sub {t0 u : T} {v0 x : V} {p : List Nat} (w : Way H t0 v0 p u x) : ∀ {n : Nat} {F : List Addr}, Own K H S n t0 v0 F → p.length ≤ n → (t0.flat = false ∨ p = []) → u.flat = false → ∃ Fi, Own K H S (n - p.length) u x Fi ∧ ∀ b ∈ Fi, b ∈ F := by
  induction w with
  | nil => exact fun {n F} h _ _ _ => ⟨F, h, fun _ z => z⟩
  | @lst b vs0 ts0 i t1 t2 v1 v2 p g1 g2 g3 w ih =>
    intro n F h hp _ hu
    cases h with
    | sls _ _ => exact absurd hp (by simp)
    | @lst n _ vs2 _ F q r =>
      rw [g1] at q
      have e : vs0 = vs2 := HO.lst.inj (Option.some.inj q)
      subst e
      obtain ⟨G1, Fi, G2, rfl, o, _⟩ := Owns.split r g3 g2
      have f1 : t1.flat = false ∨ p = [] := by
        cases p with
        | nil => exact .inr rfl
        | cons _ _ =>
          left
          cases hf : t1.flat with
          | false => rfl
          | true =>
            exfalso
            have := (flat_way w hf)
            rw [this] at hu; cases hu
      obtain ⟨Fj, o2, s2⟩ := ih o (by simp at hp; omega) f1 hu
      have en : n + 1 - (i :: p).length = n - p.length := by rw [List.length_cons]; omega
      exact ⟨Fj, by rw [en]; exact o2, fun c hc => List.mem_cons_of_mem _ (by simp [s2 c hc])⟩
  | @tup b vs0 ts0 i t1 t2 v1 v2 p g1 g2 g3 w ih =>
    intro n F h hp hf0 hu
    cases h with
    | tupf _ f _ =>
      rcases hf0 with hf0 | hf0
      · rw [T.flat, T.flatAt] at hf0; rw [T.flats] at f; simp at hf0; rw [hf0] at f; cases f
      · cases hf0
    | tup0 _ _ => exact absurd hp (by simp)
    | @tup n _ vs2 _ F q r =>
      rw [g1] at q
      have e : vs0 = vs2 := HO.tup.inj (Option.some.inj q)
      subst e
      obtain ⟨G1, Fi, G2, rfl, o, _⟩ := Owns.split r g3 g2
      have f1 : t1.flat = false ∨ p = [] := by
        cases p with
        | nil => exact .inr rfl
        | cons _ _ =>
          left
          cases hf : t1.flat with
          | false => rfl
          | true =>
            exfalso
            have := (flat_way w hf)
            rw [this] at hu; cases hu
      obtain ⟨Fj, o2, s2⟩ := ih o (by simp at hp; omega) f1 hu
      have en : n + 1 - (i :: p).length = n - p.length := by rw [List.length_cons]; omega
      exact ⟨Fj, by rw [en]; exact o2, fun c hc => by simp [s2 c hc]⟩

/-! ### slots forgotten -/
theorem StaW.wk (s : StaW K f τ ρ σ H S rs) (h : Ent → Ent) (h1 : ∀ e, h e = e ∨ h e = .no) (h2 : ∀ e, e.own ≠ none → h e = e) : StaW K f τ (ρ.map h) σ H S (rs.map fun r => ⟨h r.e, r.o, if (h r.e).tr.isSome then r.F else []⟩) where
  e := by rw [← s.e, List.map_map, List.map_map]; rfl
  o := by rw [← s.o, List.map_map]; rfl
  good := by
    have len : (rs.map fun r => (⟨h r.e, r.o, if (h r.e).tr.isSome then r.F else []⟩ : Root)).length = rs.length := by rw [List.length_map]
    refine s.good.pick (fun m => m) (fun m r e => ?_) fun _ _ _ _ _ _ _ _ z => z
    by_cases hlt : m < rs.length
    · rw [List.getElem?_append_left (by omega), List.getElem?_map] at e
      cases q : rs[m]? with
      | none => rw [q] at e; cases e
      | some r0 =>
        rw [q] at e
        have e : r = ⟨h r0.e, r0.o, if (h r0.e).tr.isSome then r0.F else []⟩ := (Option.some.inj e).symm
        rcases h1 r0.e with z | z
        · by_cases ht : r0.e.tr.isSome = true
          · right
            rw [e, z, if_pos ht]
            exact getElem?_app q
          · have z0 : r0.e = .no := by
              cases er : r0.e <;> first | rfl | (rw [er] at ht; simp [Ent.tr] at ht)
            left
            rw [e, z, z0]
            exact ⟨rfl, rfl⟩
        · left
          rw [e, z]
          exact ⟨rfl, rfl⟩
    · rw [List.getElem?_append_right (by omega), len] at e
      right
      rw [List.getElem?_append_right (by omega)]
      exact e
  al := fun k j i t hh => by
    rw [List.getElem?_map] at hh
    cases q : ρ[k]? with
    | none => rw [q] at hh; cases hh
    | some e =>
      rw [q] at hh
      have hh := Option.some.inj hh
      rcases h1 e with z | z
      · rw [z] at hh
        subst hh
        obtain ⟨r, n, U, v0, v, Fi, a1, a2, a3, a4, a5, a6, a7⟩ := (s.al k j i t q).ex
        have er : h r.e = r.e := h2 r.e (by rw [a2]; intro z; cases z)
        refine ⟨⟨⟨h r.e, r.o, if (h r.e).tr.isSome then r.F else []⟩, n, U, v0, v, Fi, by rw [List.getElem?_map, a1]; rfl, ?_, a3, a4, a5, a6, ?_⟩⟩
        · show (h r.e).own = _
          rw [er]; exact a2
        · show ∀ b ∈ Fi, b ∈ (if (h r.e).tr.isSome then r.F else [])
          have et : (h r.e).tr.isSome = true := by
            rw [er]
            cases e2 : r.e <;> rw [e2] at a2 <;> first | rfl | cases a2
          rw [if_pos et]
          exact a7
      · rw [z] at hh; cases hh
  io := fun i n t hh => by
    rw [List.getElem?_map] at hh
    cases q : ρ[i]? with
    | none => rw [q] at hh; cases hh
    | some e =>
      rw [q] at hh
      have hh := Option.some.inj hh
      rcases h1 e with z | z
      · rw [z] at hh
        subst hh
        exact s.io i n t q
      · rw [z] at hh; cases hh
  tm := s.tm
theorem noRo_cases (js : List Nat) (e : Ent) : noRo js e = e ∨ noRo js e = .no := by
  cases e with
  | al j i t =>
    by_cases h : j ∈ js
    · exact .inr (by simp [noRo, h])
    · exact .inl (by simp [noRo, h])
  | ro t => exact .inr rfl
  | no => exact .inl rfl
  | ow _ _ => exact .inl rfl
  | io _ _ => exact .inl rfl
theorem noRo_own (js : List Nat) (e : Ent) (h : e.own ≠ none) : noRo js e = e := by cases e <;> first | rfl | exact absurd rfl h
theorem Sta.killJ (js : List Nat) (s : Sta K f τ ρ σ H) : Sta K f τ (TL.killJ js ρ) σ H := let ⟨S, rs, s⟩ := s; ⟨S, _, s.wk (noRo js) (noRo_cases js) (noRo_own js)⟩
theorem noRA_cases (e : Ent) : noRA e = e ∨ noRA e = .no := by cases e <;> first | exact .inl rfl | exact .inr rfl
theorem noRA_own (e : Ent) (h : e.own ≠ none) : noRA e = e := by cases e <;> first | rfl | exact absurd rfl h
end
end TL
set_option Elab.async false
set_option linter.all false
set_option maxRecDepth 100000
namespace TL
open PySem PySem.Spec PyProof.Rows L2

/-- kind m serves where kind k is wanted -/
def fit (k m : Nat) (t : T) : Prop := k ≤ m ∨ t.flat = true
section
variable {K : PySem.W.Frag} {f : Fm} {S S' : Addr → Prop} {H H' : Hp} {τ τ' rs rs' : List Root} {ρ ρ' : List Ent} {σ : St}
theorem Own.fit {k m : Nat} {t : T} {v : V} {F : List Addr} (h : Own K H S m t v F) (hk : fit k m t) : ∃ F' : List Addr, F'.Sublist F ∧ ∀ S' : Addr → Prop, (∀ a, S a → S' a) → (∀ a ∈ F, a ∉ F' → S' a) → F.Nodup → Own K H S' k t v F' := by
  rcases hk with hk | hk
  · exact h.less hk
  · obtain ⟨e, q⟩ := h.flat0 hk
    exact ⟨[], List.nil_sublist _, fun S' _ _ _ => q k S'⟩
theorem put_own {e : Ent} {n : Nat} {U : T} (h : e.own = some (n, U)) (U' : T) : (e.put U').own = some (n, U') := by
  cases e <;> first | (cases h; rfl) | cases h
theorem put_io {e : Ent} {n n' : Nat} {U U' t : T} (h : e.own = some (n, U)) (q : e.put U' = .io n' t) : e = .io n U := by
  cases e <;> first | cases h | skip
  · cases q
  · rfl
theorem slot_put {e : Ent} {n : Nat} {U U' : T} {v : V} {F : List Addr} (h : e.own = some (n, U)) (o : Own K H S n U' v F) : SlotR K H S (e.put U') (some v) F := by
  cases e <;> first | (cases h; exact ⟨v, rfl, o⟩) | cases h
/-- an owned list changed; the value of the last temporary may have gone into it -/
theorem StaW.core {m j : Nat} {t2 : T} {v2 : V} {F2 : List Addr} (s : StaW K f (τ ++ [tmp m t2 v2 F2]) ρ σ H S rs) (hnr : ∀ e ∈ ρ, (∀ t, e ≠ .ro t) ∧ ∀ i t, e ≠ .al j i t)
    {n : Nat} {e : Ent} {U : T} {v0 : V} {p : List Nat} {ts : List T} {a : Addr} (he : ρ[j]? = some e) (ho : e.own = some (n, U)) (hv : σ[j]? = some (some v0)) (w : Way H U v0 p (.lst ts) (.ref a)) (hp : p.length < n) (hf : TL.fit (n - p.length - 1) m t2) :
    ∃ (vs : List V) (Fs F2' : List Addr) (S' : Addr → Prop), H a = some (.lst vs) ∧ Owns K H S (n - p.length - 1) ts vs Fs ∧ (∀ b, S b → S' b) ∧ Own K H S' (n - p.length - 1) t2 v2 F2' ∧ a ∉ Fs ∧ a ∉ F2' ∧ ¬ S' a ∧ Fs.Nodup ∧ F2'.Nodup ∧ (∀ b ∈ Fs, b ∉ F2') ∧ (p ≠ [] → v0 ≠ .ref a) ∧
      ∀ (vs' : List V) (ts' : List T) (Fs' : List Addr), Owns K (upd H a (.lst vs')) S' (n - p.length - 1) ts' vs' Fs' → Fs'.Nodup → (∀ b ∈ Fs', b ∈ Fs ∨ b ∈ F2') →
        Sta K f τ (ρ.set j (e.put (T.put (.lst ts') p U))) σ (upd H a (.lst vs')) := by
  obtain ⟨r, g1, g2, g3, g4⟩ := s.get he
  obtain ⟨q1, q2, q3⟩ := s.good.slot j r g1
  obtain ⟨v0', e1, own⟩ := q1.own (g2 ▸ ho)
  rw [hv] at g3
  have e0 : v0 = v0' := by
    rw [e1] at g3
    exact Option.some.inj (Option.some.inj g3)
  subst e0
  have jl : j < rs.length := (List.getElem?_eq_some_iff.mp g4).1
  obtain ⟨vs, F1, Fs, F3, eF, hA, r2, nv0, k2⟩ := own.way w rfl rfl hp q2
  have gt : (rs ++ (τ ++ [tmp m t2 v2 F2]))[(rs ++ τ).length]? = some (tmp m t2 v2 F2) := by
    rw [← List.append_assoc]; exact getElem?_last
  obtain ⟨p1, p2, p3⟩ := s.good.slot _ _ gt
  obtain ⟨v2', e2, own2⟩ := p1
  have e0 : v2 = v2' := Option.some.inj e2
  subst e0
  obtain ⟨F2', sub, k3⟩ := own2.fit hf
  have jt : j ≠ (rs ++ τ).length := by rw [List.length_append]; omega
  have d12 : ∀ b ∈ r.F, b ∉ F2 := fun b hb => s.good.dj _ _ _ _ g1 gt jt b hb
  have aF : a ∈ r.F := by rw [eF]; simp
  have nd := q2
  rw [eF] at nd
  obtain ⟨n1, n2, n3⟩ := List.nodup_append.mp nd
  obtain ⟨n4, n5, n6⟩ := List.nodup_append.mp n1
  obtain ⟨n7, n8⟩ := List.nodup_cons.mp n5
  have sF : ∀ b ∈ Fs, b ∈ r.F := fun b hb => by rw [eF]; simp [hb]
  refine ⟨vs, Fs, F2', fun b => S b ∨ (b ∈ F2 ∧ b ∉ F2'), hA, r2, fun _ => .inl, k3 _ (fun _ => .inl) (fun b h1 h2 => .inr ⟨h1, h2⟩) p2, n7, fun z => d12 a aF (sub.subset z), fun z => ?_, n8, p2.sublist sub, fun b hb z => d12 b (sF b hb) (sub.subset z), nv0, ?_⟩
  · rcases z with z | ⟨z, _⟩
    · exact (q3 a aF).1 z
    · exact d12 a aF z
  intro vs' ts' Fs' hO hnd hsrc
  have keepL : ∀ b xs, b ≠ a → H b = some (.lst xs) → upd H a (.lst vs') b = some (.lst xs) := fun b xs h1 h2 => by rw [upd_ne h1]; exact h2
  have keepT : ∀ b o, H b = some o → (∀ xs, o ≠ .lst xs) → upd H a (.lst vs') b = some o := fun b o h1 h2 => by
    rw [upd_ne (fun z => by rw [z, hA] at h1; exact h2 _ (Option.some.inj h1).symm)]; exact h1
  have nS' : ¬ (S a ∨ (a ∈ F2 ∧ a ∉ F2')) := fun z => by
    rcases z with z | ⟨z, _⟩
    · exact (q3 a aF).1 z
    · exact d12 a aF z
  have own' := k2 (upd H a (.lst vs')) (fun b => S b ∨ (b ∈ F2 ∧ b ∉ F2')) vs' ts' Fs' (fun _ => .inl) (fun b xs h => keepT b _ h fun _ z => nomatch z) (fun b o u h => keepT b _ h fun _ z => nomatch z) (fun b xs h1 _ h3 => keepL b xs h1 h3) (q3 a aF).1 upd_same hO
  have mem' : ∀ b ∈ F1 ++ a :: Fs' ++ F3, b ∈ r.F ∨ b ∈ F2' := fun b hb => by
    rcases List.mem_append.mp hb with hb | hb
    · rcases List.mem_append.mp hb with hb | hb
      · exact .inl (by rw [eF]; simp [hb])
      · rcases List.mem_cons.mp hb with rfl | hb
        · exact .inl aF
        · exact (hsrc b hb).imp_left (sF b)
    · exact .inl (by rw [eF]; simp [hb])
  have gO : ∀ m' r', m' ≠ j → (rs.set j ⟨e.put (T.put (.lst ts') p U), some v0, F1 ++ a :: Fs' ++ F3⟩ ++ τ)[m']? = some r' → (rs ++ (τ ++ [tmp m t2 v2 F2]))[m']? = some r' ∧ m' ≠ (rs ++ τ).length := fun m' r' hm h => by
    have hl := (List.getElem?_eq_some_iff.mp h).1
    rw [List.length_append, List.length_set] at hl
    refine ⟨?_, by rw [List.length_append]; omega⟩
    by_cases hlt : m' < rs.length
    · rw [List.getElem?_append_left (by rw [List.length_set]; omega), List.getElem?_set_ne (Ne.symm hm)] at h
      exact getElem?_app h
    · rw [List.getElem?_append_right (by rw [List.length_set]; omega), List.length_set] at h
      rw [List.getElem?_append_right (by omega)]
      exact getElem?_app h
  refine ⟨fun b => S b ∨ (b ∈ F2 ∧ b ∉ F2'), rs.set j ⟨e.put (T.put (.lst ts') p U), some v0, F1 ++ a :: Fs' ++ F3⟩, ⟨?_, ?_, ?_, ?_, ?_, fun r h => s.tm r (List.mem_append_left _ h)⟩⟩
  · rw [List.map_set, s.e]
  · rw [List.map_set, s.o]
    exact set_self hv
  · have hlen : (rs.set j (⟨e.put (T.put (.lst ts') p U), some v0, F1 ++ a :: Fs' ++ F3⟩ : Root) ++ τ).length = (rs ++ τ).length := by rw [List.length_append, List.length_append, List.length_set]
    have old2 : ∀ m' q, m' ≠ j → m' < (rs ++ τ).length → (rs ++ (τ ++ [tmp m t2 v2 F2]))[m']? = some q → (∀ b ∈ r.F, b ∉ q.F) ∧ ∀ b ∈ F2, b ∉ q.F := fun m' q hm hl h => by
      have hm2 : m' ≠ (rs ++ τ).length := by omega
      exact ⟨fun b hb => s.good.dj _ _ _ _ g1 h (Ne.symm hm) b hb, fun b hb => s.good.dj _ _ _ _ gt h (Ne.symm hm2) b hb⟩
    refine s.good.repl (fun m => m) j (r' := ⟨e.put (T.put (.lst ts') p U), some v0, F1 ++ a :: Fs' ++ F3⟩) ?_ (fun m' r' hm h => .inr (gO m' r' hm h).1) (fun _ _ _ _ _ _ _ _ _ _ z => z) (slot_put ho own') ?_ (fun b hb => ?_) (fun b hb m' q hm hl h => ?_) (fun _ => .inl) (fun m' q hm hl h b hb z => ?_) (fun m' q hm h _ => ?_) (fun b hb => ?_) (fun b o h1 h2 => ?_) fun b hb => ?_
    · exact getElem?_app (by rw [List.getElem?_set_self jl])
    · -- nodup
      have dF : ∀ b ∈ Fs', b ∈ r.F → b ∈ Fs := fun b hb hr => by
        rcases hsrc b hb with z | z
        · exact z
        · exact absurd (sub.subset z) (d12 b hr)
      refine List.nodup_append.mpr ⟨List.nodup_append.mpr ⟨n4, List.nodup_cons.mpr ⟨fun z => n7 (dF a z aF), hnd⟩, fun x hx y hy exy => ?_⟩, n2, fun x hx y hy exy => ?_⟩
      · subst exy
        rcases List.mem_cons.mp hy with rfl | hy
        · exact n6 x hx x (by simp) rfl
        · exact n6 x hx x (List.mem_cons_of_mem _ (dF x hy (by rw [eF]; simp [hx]))) rfl
      · subst exy
        rcases List.mem_append.mp hx with hx | hx
        · exact n3 x (by simp [hx]) x hy rfl
        · rcases List.mem_cons.mp hx with rfl | hx
          · exact n3 x (by simp) x hy rfl
          · exact n3 x (by simp [dF x hx (by rw [eF]; simp [hy])]) x hy rfl
    · rcases mem' b hb with z | z
      · refine ⟨fun y => ?_, (q3 b z).2⟩
        rcases y with y | ⟨y, _⟩
        · exact (q3 b z).1 y
        · exact d12 b z y
      · refine ⟨fun y => ?_, (p3 b (sub.subset z)).2⟩
        rcases y with y | ⟨_, y⟩
        · exact (p3 b (sub.subset z)).1 y
        · exact y z
    · have hl := (List.getElem?_eq_some_iff.mp hl).1
      rw [hlen] at hl
      rcases mem' b hb with z | z
      · exact (old2 m' q hm hl h).1 b z
      · exact (old2 m' q hm hl h).2 b (sub.subset z)
    · have hl := (List.getElem?_eq_some_iff.mp hl).1
      rw [hlen] at hl
      rcases z with z | ⟨z, _⟩
      · exact ((s.good.slot _ _ h).2.2 b hb).1 z
      · exact (old2 m' q hm hl h).2 b z hb
    · obtain ⟨h1, h2⟩ := gO m' q hm h
      have hl := (List.getElem?_eq_some_iff.mp h).1
      rw [hlen] at hl
      refine ⟨⟨fun b xs h => keepT b _ h (fun _ z => nomatch z), fun b o u h => keepT b _ h (fun _ z => nomatch z), fun b xs hb hx => keepL b xs (fun z => ?_) hx⟩, fun t1 t2 => ?_⟩
      · rcases hb with hb | hb
        · exact (q3 a aF).1 (z ▸ hb)
        · exact (old2 m' q hm hl h1).1 a aF (z ▸ hb)
      · exfalso
        by_cases hlt : m' < rs.length
        · rw [List.getElem?_append_left hlt] at h1
          have hm : q.e ∈ ρ := by rw [← s.e]; exact List.mem_map_of_mem (List.mem_of_getElem? h1)
          exact (hnr _ hm).1 t1 t2
        · rw [List.getElem?_append_right (by omega)] at h1
          obtain ⟨n', t', z⟩ := s.tm q (List.mem_of_getElem? h1)
          rw [z] at t2; cases t2
    · by_cases hb' : b = a
      · rw [hb', upd_same]; exact fun z => nomatch z
      · rw [upd_ne hb']
        rcases hb with hb | ⟨hb, _⟩
        · exact s.good.trk b hb
        · obtain ⟨xs, z⟩ := own2.there b hb
          rw [z]; exact fun z => nomatch z
    · by_cases hb' : b = a
      · subst hb'
        rcases (q3 b aF).2 with z | z
        · rw [z] at h1; cases h1
        · exact absurd z h2
      · rw [upd_ne hb']; exact s.good.fr b o h1 h2
    · rcases hb with hb | ⟨hb, _⟩
      · exact s.good.src b hb
      · exact .inr (p3 b hb).2
  · intro k j' i t h
    by_cases hk : k = j
    · subst hk
      rw [List.getElem?_set_self (by rw [← s.len]; exact jl)] at h
      have z := put_own ho (T.put (.lst ts') p U)
      rw [Option.some.inj h] at z
      cases z
    · rw [List.getElem?_set_ne (Ne.symm hk)] at h
      have nj : j' ≠ j := fun z => (hnr _ (List.mem_of_getElem? h)).2 i t (by rw [z])
      obtain ⟨r', n', U', w0, w1, Fi, a1, a2, a3, a4, a5, a6, a7⟩ := (s.al k j' i t h).ex
      have g5 : (rs ++ (τ ++ [tmp m t2 v2 F2]))[j']? = some r' := getElem?_app a1
      have na : ∀ b ∈ r'.F, b ≠ a := fun b hb z => s.good.dj _ _ _ _ g1 g5 (Ne.symm nj) a aF (z ▸ hb)
      refine ⟨⟨r', n', U', w0, w1, Fi, by rw [List.getElem?_set_ne (Ne.symm nj)]; exact a1, a2, a3, a4, ?_, ?_, a7⟩⟩
      · obtain ⟨w0', e3, own3⟩ := (s.good.slot _ _ g5).1.own a2
        rw [a3] at e3
        have e3 := Option.some.inj e3
        subst e3
        generalize r'.F = G at own3 na
        cases a5 with
        | lst b1 b2 b3 b4 =>
          cases own3 with
          | lst _ _ => exact .lst (by rw [upd_ne (na _ List.mem_cons_self)]; exact b1) b2 b3 (by cases b4; exact .nil)
        | tup b1 b2 b3 b4 => exact .tup (keepT _ _ b1 (fun _ z => nomatch z)) b2 b3 (by cases b4; exact .nil)
      · exact a6.keep (fun _ => .inl) ⟨fun b xs h => keepT b _ h (fun _ z => nomatch z), fun b o u h => keepT b _ h (fun _ z => nomatch z), fun b xs hb hx => keepL b xs (fun z => by
          rcases hb with hb | hb
          · exact (q3 a aF).1 (z ▸ hb)
          · exact na b (a7 b hb) z) hx⟩
  · intro i n' t h
    by_cases hk : i = j
    · subst hk
      rw [List.getElem?_set_self (by rw [← s.len]; exact jl)] at h
      have z := put_io ho (Option.some.inj h)
      rw [z] at he
      exact s.io i _ _ he
    · rw [List.getElem?_set_ne (Ne.symm hk)] at h
      exact s.io i n' t h
theorem killJ_nr (j : Nat) (ρ : List Ent) : ∀ e ∈ killJ [j] ρ, (∀ t, e ≠ .ro t) ∧ ∀ i t, e ≠ .al j i t := by
  intro e h
  unfold killJ at h
  obtain ⟨e0, _, rfl⟩ := List.mem_map.mp h
  cases e0 with
  | al j' i t =>
    by_cases hj : j' = j
    · subst hj; simp [noRo]
    · simp [noRo, hj]
  | _ => simp [noRo]
theorem killJ_get {js : List Nat} {ρ : List Ent} {j : Nat} {e : Ent} {n : Nat} {U : T} (h : ρ[j]? = some e) (ho : e.own = some (n, U)) : (killJ js ρ)[j]? = some e := by
  unfold killJ
  rw [List.getElem?_map, h]
  show some (noRo js e) = some e
  rw [noRo_own js e (by rw [ho]; exact fun z => nomatch z)]
theorem Owns.get {n i : Nat} : ∀ {ts : List T} {vs : List V} {F : List Addr} {t : T}, Owns K H S n ts vs F → ts[i]? = some t → ∃ v, vs[i]? = some v := fun {ts vs F t} h e => by
  have hl := (List.getElem?_eq_some_iff.mp e).1
  rw [Owns.length h] at hl
  exact ⟨vs[i], List.getElem?_eq_getElem hl⟩
theorem Owns.snoc {n : Nat} {t : T} {v : V} {G : List Addr} : ∀ {ts : List T} {vs : List V} {F : List Addr}, Owns K H S n ts vs F → Own K H S n t v G → Owns K H S n (ts ++ [t]) (vs ++ [v]) (F ++ G)
  | [], _, _, h, o => by
    cases h
    have z := Owns.cons o Owns.nil
    simpa using z
  | u :: ts, _, _, h, o => by
    cases h with
    | @cons n t0 ts v0 vs F1 F2 a r =>
      have z := Owns.cons a (Owns.snoc r o)
      simpa using z
/-- the value of the last temporary stored at place i of an owned list; or behind it -/
theorem Sta.mut {m : Nat} {t2 : T} {v2 : V} {F2 : List Addr} (s : Sta K f (τ ++ [tmp m t2 v2 F2]) ρ σ H)
    {j n : Nat} {e : Ent} {U : T} {v0 : V} {p : List Nat} {ts : List T} {a : Addr} (he : ρ[j]? = some e) (ho : e.own = some (n, U)) (hv : σ[j]? = some (some v0)) (w : Way H U v0 p (.lst ts) (.ref a)) (hp : p.length < n) (hf : TL.fit (n - p.length - 1) m t2) :
    ∃ vs : List V, H a = some (.lst vs) ∧ vs.length = ts.length ∧ (p ≠ [] → v0 ≠ .ref a) ∧
      (∀ i, i < ts.length → Sta K f τ ((TL.killJ [j] ρ).set j (e.put (T.put (.lst (ts.set i t2)) p U))) σ (upd H a (.lst (vs.set i v2)))) ∧
      Sta K f τ ((TL.killJ [j] ρ).set j (e.put (T.put (.lst (ts ++ [t2])) p U))) σ (upd H a (.lst (vs ++ [v2]))) := by
  obtain ⟨S, rs, s⟩ := s.killJ [j]
  obtain ⟨vs, Fs, F2', S', hA, r2, hS, o2, na1, na2, nSa, nd1, nd2, dj, nv0, k⟩ := s.core (killJ_nr j ρ) (killJ_get he ho) ho hv w hp hf
  have kp : ∀ (vs' : List V) (G : List Addr), a ∉ G → Kp H (upd H a (.lst vs')) S G := fun vs' G hG =>
    ⟨fun b xs h => by rw [upd_ne (fun z => by rw [z, hA] at h; cases h)]; exact h, fun b o u h => by rw [upd_ne (fun z => by rw [z, hA] at h; cases h)]; exact h, fun b xs hb h => by
      rw [upd_ne (fun z => by
        subst z
        rcases hb with hb | hb
        · exact nSa (hS _ hb)
        · exact hG hb)]
      exact h⟩
  have kp' : ∀ (vs' : List V) (G : List Addr), a ∉ G → Kp H (upd H a (.lst vs')) S' G := fun vs' G hG =>
    ⟨fun b xs h => by rw [upd_ne (fun z => by rw [z, hA] at h; cases h)]; exact h, fun b o u h => by rw [upd_ne (fun z => by rw [z, hA] at h; cases h)]; exact h, fun b xs hb h => by
      rw [upd_ne (fun z => by
        subst z
        rcases hb with hb | hb
        · exact nSa hb
        · exact hG hb)]
      exact h⟩
  refine ⟨vs, hA, r2.length.symm, nv0, fun i hi => ?_, ?_⟩
  · obtain ⟨v, ev⟩ := r2.get (List.getElem?_eq_getElem hi)
    obtain ⟨G1, Gi, G2, rfl, oi, ki⟩ := r2.split (List.getElem?_eq_getElem hi) ev
    have z := ki (upd H a (.lst (vs.set i v2))) S' t2 v2 F2' hS (kp _ _ (by simp at na1; simp [na1])) (kp _ _ (by simp at na1; simp [na1])) (o2.keep (fun _ z => z) (kp' _ _ na2))
    obtain ⟨n1, n2, n3⟩ := List.nodup_append.mp nd1
    obtain ⟨n4, n5, n6⟩ := List.nodup_append.mp n1
    refine k _ _ _ z ?_ fun b hb => ?_
    · refine List.nodup_append.mpr ⟨List.nodup_append.mpr ⟨n4, nd2, fun x hx y hy e => ?_⟩, n2, fun x hx y hy e => ?_⟩
      · subst e; exact dj x (by simp [hx]) hy
      · subst e
        rcases List.mem_append.mp hx with hx | hx
        · exact n3 x (by simp [hx]) x hy rfl
        · exact dj x (by simp [hy]) hx
    · simp at hb ⊢
      rcases hb with hb | hb | hb <;> simp [hb]
  · have z := Owns.snoc (r2.keep hS (kp (vs ++ [v2]) _ na1)) (o2.keep (fun _ z => z) (kp' (vs ++ [v2]) _ na2))
    refine k _ _ _ z (List.nodup_append.mpr ⟨nd1, nd2, fun x hx y hy e => ?_⟩) fun b hb => List.mem_append.mp hb
    subst e
    exact dj x hx hy
end
end TL
set_option Elab.async false
set_option linter.all false
set_option maxRecDepth 100000
namespace TL
open PySem PySem.Spec PyProof.Rows L2
section
variable {K : PySem.W.Frag} {f : Fm} {S S' : Addr → Prop} {H H' : Hp} {τ τ' ms rs rs' : List Root} {ρ ρ' : List Ent} {σ : St}
/-! ### slot i anew, without a footprint -/
theorem StaW.setE0 (s : StaW K f τ ρ σ H S rs) {i : Nat} {e' : Ent} {v : V} (hi : i < ρ.length) (hs : SlotR K H S e' (some v) []) (hio : ∀ n t, e' ≠ .io n t)
    (hal : ∀ j k t, e' = .al j k t → j ≠ i ∧ ∃ (r : Root) (n : Nat) (U : T) (v0 : V) (Fi : List Addr), rs[j]? = some r ∧ r.e.own = some (n + 1, U) ∧ r.o = some v0 ∧ Way H U v0 [k] t v ∧ Own K H S n t v Fi ∧ ∀ b ∈ Fi, b ∈ r.F) :
    StaW K f τ (setE ρ i e') (σ.set i (some v)) H S ((rs.map (Root.noAl i)).set i ⟨e', some v, []⟩) where
  e := by
    rw [List.map_set, List.map_map]
    unfold setE killA
    rw [← s.e, List.map_map]
    rfl
  o := by
    rw [List.map_set, List.map_map]
    show (List.map (fun r => r.o) rs).set i (some v) = σ.set i (some v)
    rw [s.o]
  good := by
    have hl := s.len
    have len : ((rs.map (Root.noAl i)).set i (⟨e', some v, []⟩ : Root)).length = rs.length := by rw [List.length_set, List.length_map]
    have hold : ∀ m r, m ≠ i → ((rs.map (Root.noAl i)).set i (⟨e', some v, []⟩ : Root) ++ τ)[m]? = some r → (r.e = .no ∧ r.F = []) ∨ (rs ++ τ)[m]? = some r := fun m r hm e => by
      by_cases hlt : m < rs.length
      · rw [List.getElem?_append_left (by omega), List.getElem?_set_ne (Ne.symm hm), List.getElem?_map] at e
        cases q : rs[m]? with
        | none => rw [q] at e; cases e
        | some r0 =>
          rw [q] at e
          have e := (Option.some.inj e).symm
          rcases noAl_cases i r0.e with h | ⟨k, u, h, h2⟩
          · right
            rw [e]
            unfold Root.noAl
            rw [h]
            exact getElem?_app q
          · left
            rw [e]
            exact ⟨h2, show r0.F = [] from s.alF (getElem?_app q) h⟩
      · rw [List.getElem?_append_right (by omega), len] at e
        right
        rw [List.getElem?_append_right (by omega)]
        exact e
    have k0 : ∀ F, Kp H H S F := fun F => kp_refl
    exact s.good.repl (fun m => m) i (r' := ⟨e', some v, []⟩) (getElem?_app (by rw [List.getElem?_set_self (by rw [List.length_map]; omega)])) hold (fun _ _ _ _ _ _ _ _ _ _ z => z) hs List.nodup_nil (fun a z => nomatch z) (fun a z => nomatch z) (fun _ z => z)
      (fun m q hm _ h a ha => ((s.good.slot m q h).2.2 a ha).1) (fun m q _ _ _ => ⟨k0 _, fun _ _ => kp_refl⟩) s.good.trk s.good.fr s.good.src
  al := fun k j l u h => by
    by_cases hk : k = i
    · subst hk
      have e0 := setE_same h
      obtain ⟨nj, r, n, U, v0, Fi, a1, a2, a3, a4, a5, a6⟩ := hal j l u e0.symm
      refine ⟨⟨r.noAl k, n, U, v0, v, Fi, ?_, ?_, a3, ?_, a4, a5, a6⟩⟩
      · rw [List.getElem?_set_ne (Ne.symm nj), List.getElem?_map, a1]; rfl
      · exact (noAl_own k r.e).trans a2
      · rw [List.getElem?_set_self (by rw [← s.lenσ, s.len]; exact hi)]
    · obtain ⟨y, hy, e⟩ := setE_get h hk
      obtain ⟨e2, nj⟩ := noAl_al e.symm
      subst e2
      obtain ⟨r, n', U, v0, v1, Fi, a1, a2, a3, a4, a5, a6, a7⟩ := (s.al k j l u hy).ex
      refine ⟨⟨r.noAl i, n', U, v0, v1, Fi, ?_, ?_, a3, ?_, a5, a6, a7⟩⟩
      · rw [List.getElem?_set_ne (Ne.symm nj), List.getElem?_map, a1]; rfl
      · exact (noAl_own i r.e).trans a2
      · rw [List.getElem?_set_ne (Ne.symm hk)]; exact a4
  io := fun k n' u h => by
    by_cases hk : k = i
    · subst hk
      exact absurd (setE_same h).symm (hio n' u)
    · obtain ⟨y, hy, e⟩ := setE_get h hk
      have e2 := noAl_io e.symm
      subst e2
      rw [List.getElem?_set_ne (Ne.symm hk)]
      exact s.io k n' u hy
  tm := s.tm
/-- a slot's value taken as a temporary -/
theorem StaW.copyV (s : StaW K f τ ρ σ H S rs) {i : Nat} {t : T} (he : ρ[i]? = some (.ow 0 t)) : ∃ v, σ[i]? = some (some v) ∧ StaW K f (τ ++ [tmp 0 t v []]) ρ σ H S rs := by
  obtain ⟨r, g1, g2, g3, g4⟩ := s.get he
  have z := (s.good.slot i r g1).1
  rw [g2] at z
  obtain ⟨v, e, q⟩ := z
  have e2 := q.zero
  rw [e2] at q
  exact ⟨v, by rw [g3, e], s.pushS q⟩
theorem StaW.moveV (s : StaW K f τ ρ σ H S rs) {i n : Nat} {t : T} (he : ρ[i]? = some (.ow n t)) : ∃ v F rs', σ[i]? = some (some v) ∧ StaW K f (τ ++ [tmp n t v F]) (setE ρ i .no) σ H S rs' := by
  obtain ⟨r, g1, g2, g3, g4⟩ := s.get he
  have z := s.good.slot i r g1
  obtain ⟨v, ev, own⟩ := z.1.own (n := n) (t := t) (by rw [g2]; rfl)
  have il : i < rs.length := (List.getElem?_eq_some_iff.mp g4).1
  have hl := s.len
  have s0 := s.setE0 (i := i) (e' := .no) (v := v) (by omega) (by rfl) (fun _ _ z => nomatch z) (fun _ _ _ z => nomatch z)
  have eσ : σ.set i (some v) = σ := set_self (by rw [g3, ev])
  rw [eσ] at s0
  refine ⟨v, r.F, _, by rw [g3, ev], ⟨s0.e, s0.o, ?_, s0.al, s0.io, tm_app s.tm ⟨_, _, rfl⟩⟩⟩
  have er : r = tmp n t v r.F := by
    obtain ⟨re, ro, rF⟩ := r
    simp at g2 ev
    subst g2; subst ev
    rfl
  rw [← List.append_assoc]
  have len : (((rs.map (Root.noAl i)).set i (⟨.no, some v, []⟩ : Root)) ++ τ).length = (rs ++ τ).length := by rw [List.length_append, List.length_append, List.length_set, List.length_map]
  refine s.good.pick (fun m => if m = (rs ++ τ).length then i else m) (fun m q e => ?_) fun a b ra rb ha hb na nb z => ?_
  · rcases app_old e with ⟨e1, rfl⟩ | ⟨e1, e2⟩
    · right
      rw [len] at e1
      rw [if_pos e1, g1, ← er]
    · rw [len] at e1
      rw [if_neg (by omega)]
      by_cases hm : m = i
      · subst hm
        rw [List.getElem?_append_left (by rw [List.length_set, List.length_map]; omega), List.getElem?_set_self (by rw [List.length_map]; omega)] at e2
        rw [← Option.some.inj e2]
        exact .inl ⟨rfl, rfl⟩
      · by_cases hlt : m < rs.length
        · rw [List.getElem?_append_left (by rw [List.length_set, List.length_map]; omega), List.getElem?_set_ne (Ne.symm hm), List.getElem?_map] at e2
          cases q0 : rs[m]? with
          | none => rw [q0] at e2; cases e2
          | some r0 =>
            rw [q0] at e2
            have e2 := (Option.some.inj e2).symm
            rcases noAl_cases i r0.e with h | ⟨k, u, h, h2⟩
            · right
              rw [e2]
              unfold Root.noAl
              rw [h]
              exact getElem?_app q0
            · left
              rw [e2]
              exact ⟨h2, show r0.F = [] from s.alF (getElem?_app q0) h⟩
        · rw [List.getElem?_append_right (by rw [List.length_set, List.length_map]; omega), List.length_set, List.length_map] at e2
          right
          rw [List.getElem?_append_right (by omega)]
          exact e2
  · have noi : ∀ {m : Nat} {q : Root}, (((rs.map (Root.noAl i)).set i (⟨.no, some v, []⟩ : Root)) ++ τ ++ [tmp n t v r.F])[m]? = some q → q.F ≠ [] → m ≠ i := fun {m q} h hn hm => by
      subst hm
      rw [List.append_assoc, List.getElem?_append_left (by rw [List.length_set, List.length_map]; omega), List.getElem?_set_self (by rw [List.length_map]; omega)] at h
      rw [← Option.some.inj h] at hn
      exact hn rfl
    have h1 := noi ha na
    have h2 := noi hb nb
    have la := (List.getElem?_eq_some_iff.mp ha).1
    have lb := (List.getElem?_eq_some_iff.mp hb).1
    rw [List.length_append, len, List.length_singleton] at la lb
    by_cases c1 : a = (rs ++ τ).length
    · by_cases c2 : b = (rs ++ τ).length
      · omega
      · rw [if_pos c1, if_neg c2] at z; omega
    · by_cases c2 : b = (rs ++ τ).length
      · rw [if_neg c1, if_pos c2] at z; omega
      · rw [if_neg c1, if_neg c2] at z; exact z
/-- the last temporary's kind lowered -/
theorem StaW.fitV {k m : Nat} {t : T} {v : V} {F : List Addr} (s : StaW K f (τ ++ [tmp m t v F]) ρ σ H S rs) (hf : TL.fit k m t) : ∃ F' S', (∀ a, S a → S' a) ∧ StaW K f (τ ++ [tmp k t v F']) ρ σ H S' rs := by
  have gt : (rs ++ (τ ++ [tmp m t v F]))[(rs ++ τ).length]? = some (tmp m t v F) := by
    rw [← List.append_assoc]; exact getElem?_last
  obtain ⟨p1, p2, p3⟩ := s.good.slot _ _ gt
  obtain ⟨v2', e2, own⟩ := p1
  have e0 : v = v2' := Option.some.inj e2
  subst e0
  obtain ⟨F', sub, k3⟩ := own.fit hf
  refine ⟨F', fun b => S b ∨ (b ∈ F ∧ b ∉ F'), fun _ => .inl, ⟨s.e, s.o, ?_, fun k' j i u h => (s.al k' j i u h).mono fun _ => .inl, s.io, tm_app (fun r h => s.tm r (List.mem_append_left _ h)) ⟨_, _, rfl⟩⟩⟩
  rw [← List.append_assoc]
  have kr : ∀ G, Kp H H S G := fun _ => kp_refl
  refine s.good.repl (fun m => m) (rs ++ τ).length (r' := tmp k t v F') getElem?_last (fun m' q hm h => ?_) (fun _ _ _ _ _ _ _ _ _ _ z => z) ⟨v, rfl, k3 _ (fun _ => .inl) (fun b h1 h2 => .inr ⟨h1, h2⟩) p2⟩ (p2.sublist sub) (fun b hb => ⟨fun z => ?_, (p3 b (sub.subset hb)).2⟩)
    (fun b hb m' q hm _ h => s.good.dj _ _ _ _ gt h (Ne.symm hm) b (sub.subset hb)) (fun _ => .inl) (fun m' q hm _ h b hb z => ?_) (fun m' q hm _ _ => ⟨kr _, fun _ _ => kp_refl⟩) (fun b hb => ?_) s.good.fr fun b hb => ?_
  · right
    rcases app_old h with ⟨e1, _⟩ | ⟨_, e1⟩
    · exact absurd e1 hm
    · rw [← List.append_assoc]; exact getElem?_app e1
  · rcases z with z | ⟨_, z⟩
    · exact (p3 b (sub.subset hb)).1 z
    · exact z hb
  · rcases z with z | ⟨z, _⟩
    · exact ((s.good.slot _ _ h).2.2 b hb).1 z
    · exact s.good.dj _ _ _ _ gt h (Ne.symm hm) b z hb
  · rcases hb with hb | ⟨hb, _⟩
    · exact s.good.trk b hb
    · obtain ⟨xs, z⟩ := own.there b hb
      rw [z]; exact fun z => nomatch z
  · rcases hb with hb | ⟨hb, _⟩
    · exact s.good.src b hb
    · exact .inr (p3 b hb).2

/-! ### several temporaries -/
inductive Tms : List Nat → List T → List V → List Root → Prop
  | nil : Tms [] [] [] []
  | cons {k : Nat} {ks : List Nat} {t : T} {ts : List T} {v : V} {vs : List V} {F : List Addr} {ms : List Root} : Tms ks ts vs ms → Tms (k :: ks) (t :: ts) (v :: vs) (tmp k t v F :: ms)
def foot (ms : List Root) : List Addr := ms.flatMap (·.F)
theorem mem_foot {a : Addr} (h : a ∈ foot ms) : ∃ (i : Nat) (r : Root), ms[i]? = some r ∧ a ∈ r.F := by
  unfold foot at h
  obtain ⟨r, h1, h2⟩ := List.mem_flatMap.mp h
  obtain ⟨i, h3⟩ := List.mem_iff_getElem?.mp h1
  exact ⟨i, r, h3, h2⟩
theorem Good.footnd : ∀ {ms pre : List Root}, Good K f S (pre ++ ms) H → (foot ms).Nodup
  | [], _, _ => List.nodup_nil
  | r :: ms, pre, G => by
    show (r.F ++ foot ms).Nodup
    have h0 : (pre ++ r :: ms)[pre.length]? = some r := by rw [List.getElem?_append_right (Nat.le_refl _), Nat.sub_self]; rfl
    have G' : Good K f S ((pre ++ [r]) ++ ms) H := by
      have e : pre ++ [r] ++ ms = pre ++ r :: ms := by simp
      rw [e]; exact G
    refine List.nodup_append.mpr ⟨(G.slot _ _ h0).2.1, Good.footnd G', fun x hx y hy e => ?_⟩
    subst e
    obtain ⟨i, q, h1, h2⟩ := mem_foot hy
    have h3 : (pre ++ r :: ms)[pre.length + (i + 1)]? = some q := by
      rw [List.getElem?_append_right (by omega)]
      have e : pre.length + (i + 1) - pre.length = i + 1 := by omega
      rw [e]
      simpa using h1
    exact G.dj _ _ _ _ h0 h3 (by omega) x hx h2
theorem Tms.owns {k : Nat} : ∀ {ks : List Nat} {ts : List T} {vs : List V} {ms : List Root}, Tms ks ts vs ms → (∀ m ∈ ks, m = k) → (∀ r ∈ ms, SlotR K H S r.e r.o r.F) → Owns K H S k ts vs (foot ms)
  | _, _, _, _, .nil, _, _ => .nil
  | _, _, _, _, @Tms.cons k0 ks t ts v vs F ms h, hk, hs => by
    have e : k0 = k := hk k0 List.mem_cons_self
    subst e
    obtain ⟨v', e, q⟩ := hs _ List.mem_cons_self
    have e : v = v' := Option.some.inj e
    subst e
    exact Owns.cons q (Tms.owns h (fun m hm => hk m (List.mem_cons_of_mem _ hm)) fun r hr => hs r (List.mem_cons_of_mem _ hr))
theorem Tms.tmps : ∀ {ks : List Nat} {ts : List T} {vs : List V} {ms : List Root}, Tms ks ts vs ms → ∀ r ∈ ms, ∃ n t, r.e = .ow n t
  | _, _, _, _, .nil, _, h => nomatch h
  | _, _, _, _, .cons h, r, hr => by
    rcases List.mem_cons.mp hr with rfl | hr
    · exact ⟨_, _, rfl⟩
    · exact Tms.tmps h r hr
/-- temporaries become the items of a new list or tuple -/
theorem StaW.join {k : Nat} {ks : List Nat} {ts : List T} {vs : List V} (s : StaW K f (τ ++ ms) ρ σ H S rs) (h : Tms ks ts vs ms) (hk : ∀ m ∈ ks, m = k) {p : Addr} (hp : H p = none) {o : HO} {t : T} {n : Nat} {Fp : List Addr}
    (hFp : Fp = [] ∨ (Fp = [p] ∧ ∃ xs, o = .lst xs)) (hO : ∀ H' : Hp, H' p = some o → Owns K H' S k ts vs (foot ms) → Own K H' S n t (.ref p) (Fp ++ foot ms)) : StaW K f (τ ++ [tmp n t (.ref p) (Fp ++ foot ms)]) ρ σ (upd H p o) S rs := by
  have hs : Same H (upd H p o) := fun b o' e => by rw [upd_ne (ne_of_none e hp)]; exact e
  have s' := s.same hs
  refine ⟨s.e, s.o, ?_, s'.al, s.io, tm_app (fun r hr => s.tm r (List.mem_append_left _ hr)) ⟨_, _, rfl⟩⟩
  have G := s'.good
  rw [← List.append_assoc] at G
  rw [← List.append_assoc]
  have hin : ∀ r ∈ ms, r ∈ rs ++ τ ++ ms := fun r hr => List.mem_append_right _ hr
  have hms : ∀ r ∈ ms, SlotR K (upd H p o) S r.e r.o r.F := fun r hr => by
    obtain ⟨i, hi⟩ := List.mem_iff_getElem?.mp (hin r hr)
    exact (G.slot i r hi).1
  have own := hO _ upd_same (h.owns hk hms)
  have idx : ∀ a ∈ foot ms, ∃ (i : Nat) (r : Root), (rs ++ τ ++ ms)[(rs ++ τ).length + i]? = some r ∧ a ∈ r.F := fun a ha => by
    obtain ⟨i, r, h1, h2⟩ := mem_foot ha
    refine ⟨i, r, ?_, h2⟩
    rw [List.getElem?_append_right (by omega)]
    have e : (rs ++ τ).length + i - (rs ++ τ).length = i := by omega
    rw [e]; exact h1
  have notp : ∀ {i : Nat} {r : Root}, (rs ++ τ ++ ms)[i]? = some r → p ∉ r.F := fun {i r} hi hm => by
    have G0 := s.good
    rw [← List.append_assoc] at G0
    obtain ⟨xs, z⟩ := G0.own_there hi hm
    rw [hp] at z; cases z
  have inFp : ∀ a ∈ Fp, a = p := fun a ha => by
    rcases hFp with z | ⟨z, _⟩
    · rw [z] at ha; cases ha
    · rw [z] at ha; simpa using ha
  have ndFp : Fp.Nodup := by
    rcases hFp with z | ⟨z, _⟩ <;> (rw [z]; simp)
  have kr : ∀ F', Kp (upd H p o) (upd H p o) S F' := fun _ => kp_refl
  have kr2 : Kp (upd H p o) (upd H p o) (fun _ => True) [] := kp_refl
  refine G.repl (fun m => m) (rs ++ τ).length (r' := tmp n t (.ref p) (Fp ++ foot ms)) getElem?_last (fun m' q hm h => ?_) (fun _ _ _ _ _ _ _ _ _ _ z => z) ⟨_, rfl, own⟩ ?_ (fun b hb => ?_) (fun b hb m' q hm h1 h2 => ?_) (fun _ z => z)
    (fun m' q hm _ h b hb => ((G.slot _ _ h).2.2 b hb).1) (fun m' q hm _ _ => ⟨kr _, fun _ _ => kr2⟩) G.trk G.fr G.src
  · right
    rcases app_old h with ⟨e1, _⟩ | ⟨_, e1⟩
    · exact absurd e1 hm
    · exact getElem?_app e1
  · refine List.nodup_append.mpr ⟨ndFp, G.footnd, fun x hx y hy e => ?_⟩
    subst e
    obtain ⟨i, r, h1, h2⟩ := idx x hy
    exact notp h1 (inFp x hx ▸ h2)
  · rcases List.mem_append.mp hb with hb | hb
    · have e := inFp b hb
      subst e
      exact ⟨fun z => s.good.trk b z hp, s.good.none_src hp⟩
    · obtain ⟨i, r, h1, h2⟩ := idx b hb
      exact (G.slot _ _ h1).2.2 b h2
  · have hl : m' < (rs ++ τ).length := by
      rcases app_old h1 with ⟨e1, _⟩ | ⟨e1, _⟩
      · exact absurd e1 hm
      · exact e1
    rcases List.mem_append.mp hb with hb | hb
    · have e := inFp b hb
      subst e
      exact notp h2
    · obtain ⟨i, r, h3, h4⟩ := idx b hb
      exact G.dj _ _ _ _ h3 h2 (by omega) b h4
end
end TL
set_option Elab.async false
set_option linter.all false
set_option maxRecDepth 100000
namespace TL
open PySem PySem.Spec PyProof.Rows L2

/-! ### the judgements -/
/-- an expression that changes nothing: what it is worth as a tree -/
structure TPE (X : Cx) (e : Expr) (w : List Ent → (T → Prop) → Prop) : Prop where
  ok : ∃ tt : TE, PE X e tt ∧ ∀ (S : Addr → Prop) (ρ : List Ent) (σ : St) (H : Hp) (Q : VK) (R : T → Prop), RdS X.K S ρ σ H → w ρ R → (∀ t v H', R t → Same H H' → Shr X.K H' (fresh S H) t v → Q v H') → tt σ H Q
structure TPT (X : Cx) (e : Expr) (w : List Ent → (Bool → Prop) → Prop) : Prop where
  ok : ∃ tt : TT, PT X e tt ∧ ∀ (S : Addr → Prop) (ρ : List Ent) (σ : St) (H : Hp) (Q : Bool → Hp → Prop) (R : Bool → Prop), RdS X.K S ρ σ H → w ρ R → (∀ b H', R b → Same H H' → Q b H') → tt σ H Q
structure TPW (X : Cx) (e : Expr) (w : List Ent → (Bool → Prop) → Prop) : Prop where
  ok : ∃ tt : TT, PW X e tt ∧ ∀ (S : Addr → Prop) (ρ : List Ent) (σ : St) (H : Hp) (Q : Bool → Hp → Prop) (R : Bool → Prop), RdS X.K S ρ σ H → w ρ R → (∀ b H', R b → Same H H' → Q b H') → tt σ H Q
structure TPA (X : Cx) (es : List Expr) (w : List Ent → (List T → Prop) → Prop) : Prop where
  ok : ∃ tt : TA, PA X es tt ∧ ∀ (S : Addr → Prop) (ρ : List Ent) (σ : St) (H : Hp) (Q : List V → Hp → Prop) (R : List T → Prop), RdS X.K S ρ σ H → w ρ R → (∀ ts vs H', R ts → Same H H' → Shrs X.K H' (fresh S H) ts vs → Q vs H') → tt σ H Q
/-- an expression that may change what is owned: its value is held as a temporary -/
structure TVE (X : Cx) (e : Expr) (w : List Ent → (Nat → T → List Ent → Prop) → Prop) : Prop where
  ok : ∃ tt : TE, PE X e tt ∧ ∀ (f : Fm) (τ : List Root) (ρ : List Ent) (σ : St) (H : Hp) (Q : VK) (R : Nat → T → List Ent → Prop), Sta X.K f τ ρ σ H → w ρ R → (∀ n t ρ' v F H', R n t ρ' → Sta X.K f (τ ++ [tmp n t v F]) ρ' σ H' → Q v H') → tt σ H Q
structure TVT (X : Cx) (e : Expr) (w : List Ent → (Bool → List Ent → Prop) → Prop) : Prop where
  ok : ∃ tt : TT, PT X e tt ∧ ∀ (f : Fm) (τ : List Root) (ρ : List Ent) (σ : St) (H : Hp) (Q : Bool → Hp → Prop) (R : Bool → List Ent → Prop), Sta X.K f τ ρ σ H → w ρ R → (∀ b ρ' H', R b ρ' → Sta X.K f τ ρ' σ H' → Q b H') → tt σ H Q
structure TVW (X : Cx) (e : Expr) (w : List Ent → (Bool → List Ent → Prop) → Prop) : Prop where
  ok : ∃ tt : TT, PW X e tt ∧ ∀ (f : Fm) (τ : List Root) (ρ : List Ent) (σ : St) (H : Hp) (Q : Bool → Hp → Prop) (R : Bool → List Ent → Prop), Sta X.K f τ ρ σ H → w ρ R → (∀ b ρ' H', R b ρ' → Sta X.K f τ ρ' σ H' → Q b H') → tt σ H Q
/-- several, each of its kind -/
structure TVA (X : Cx) (ks : List Nat) (es : List Expr) (w : List Ent → (List T → List Ent → Prop) → Prop) : Prop where
  ok : ∃ tt : TA, PA X es tt ∧ ∀ (f : Fm) (τ : List Root) (ρ : List Ent) (σ : St) (H : Hp) (Q : List V → Hp → Prop) (R : List T → List Ent → Prop), Sta X.K f τ ρ σ H → w ρ R → (∀ ts ρ' vs ms H', R ts ρ' → Tms ks ts vs ms → Sta X.K f (τ ++ ms) ρ' σ H' → Q vs H') → tt σ H Q

/-! ### values by operators -/
abbrev F1 := T → (T → Prop) → Prop
abbrev F2 := T → T → (T → Prop) → Prop
def OpT (K : PySem.W.Frag) (r : R2) (g : F2) : Prop := ∀ (S : Addr → Prop) (H : Hp) (x y : V) (t u : T) (Q : VK) (R : T → Prop), Shr K H S t x → Shr K H S u y → g t u R → (∀ z v H', R z → Same H H' → Shr K H' (fresh S H) z v → Q v H') → r x y H Q
def UnT (K : PySem.W.Frag) (r : V → Hp → VK → Prop) (g : F1) : Prop := ∀ (S : Addr → Prop) (H : Hp) (x : V) (t : T) (Q : VK) (R : T → Prop), Shr K H S t x → g t R → (∀ z v H', R z → Same H H' → Shr K H' (fresh S H) z v → Q v H') → r x H Q
def CaT (K : PySem.W.Frag) (r : List V → Hp → VK → Prop) (g : List T → (T → Prop) → Prop) : Prop := ∀ (S : Addr → Prop) (H : Hp) (xs : List V) (ts : List T) (Q : VK) (R : T → Prop), Shrs K H S ts xs → g ts R → (∀ z v H', R z → Same H H' → Shr K H' (fresh S H) z v → Q v H') → r xs H Q
def gI2 (g : Int → Int → T) : F2 := fun x y R => match x, y with
  | .int i, .int j => R (g i j)
  | _, _ => False
def gI2c (C : Int → Int → Prop) (g : Int → Int → T) : F2 := fun x y R => match x, y with
  | .int i, .int j => C i j ∧ R (g i j)
  | _, _ => False
section
variable {K : PySem.W.Frag} {S : Addr → Prop} {H H' : Hp}
theorem fr_int {i : Int} : Shr K H S (.int i) (.int i) := .int i
theorem fr_bl {i : Bool} : Shr K H S (.bl i) (.bl i) := .bl i
theorem opT_int {g : Int → Int → Int} : OpT K (rI0 fun i j => .int (g i j)) (gI2 fun i j => .int (g i j)) := by
  intro S H x y t u Q R h1 h2 hg hq
  cases t <;> first | exact hg.elim | skip
  cases u <;> first | exact hg.elim | skip
  exact ⟨_, _, (shr_int h1), (shr_int h2), hq _ _ _ hg (Same.refl H) (.int _)⟩
theorem opT_intc {C : Int → Int → Prop} {g : Int → Int → Int} : OpT K (rI C fun i j => .int (g i j)) (gI2c C fun i j => .int (g i j)) := by
  intro S H x y t u Q R h1 h2 hg hq
  cases t <;> first | exact hg.elim | skip
  cases u <;> first | exact hg.elim | skip
  exact ⟨_, _, (shr_int h1), (shr_int h2), hg.1, hq _ _ _ hg.2 (Same.refl H) (.int _)⟩
theorem opT_bl {g : Int → Int → Bool} : OpT K (rI0 fun i j => .bl (g i j)) (gI2 fun i j => .bl (g i j)) := by
  intro S H x y t u Q R h1 h2 hg hq
  cases t <;> first | exact hg.elim | skip
  cases u <;> first | exact hg.elim | skip
  exact ⟨_, _, (shr_int h1), (shr_int h2), hq _ _ _ hg (Same.refl H) (.bl _)⟩
theorem unT_int {g : Int → Int} : UnT K (rU fun i => .int (g i)) (fun x R => match x with | .int i => R (.int (g i)) | _ => False) := by
  intro S H x t Q R h1 hg hq
  cases t <;> first | exact hg.elim | skip
  exact ⟨_, (shr_int h1), hq _ _ _ hg (Same.refl H) (.int _)⟩

/-! ### == of trees -/
mutual
def T.pd : T → PyData
  | .non => .none
  | .bl b => .bool b
  | .int i => .int i
  | .str s => .str s
  | .tup ts => .tuple (T.pds ts)
  | .lst ts => .list (T.pds ts)
  | .dct _ _ => .none
  | .ins _ _ _ => .none
  | .scr ns => .list (ns.map .int)
def T.pds : List T → List PyData
  | [] => []
  | t :: ts => t.pd :: T.pds ts
end
mutual
def T.data : T → Bool
  | .tup ts => T.datas ts
  | .lst ts => T.datas ts
  | .dct _ _ => false
  | .ins _ _ _ => false
  | .scr _ => false
  | .non => true
  | .bl _ => true
  | .int _ => true
  | .str _ => true
def T.datas : List T → Bool
  | [] => true
  | t :: ts => T.data t && T.datas ts
end
mutual
theorem Shr.dp {t : T} {v : V} (h : Shr K H S t v) (hd : t.data = true) : Dp K H v t.pd := by
  cases t with
  | non => cases h; exact .non
  | bl _ => cases h; exact .bl _
  | int _ => cases h; exact .int _
  | str _ => cases h; exact .str _
  | scr _ => rw [T.data] at hd; cases hd
  | dct _ _ => rw [T.data] at hd; cases hd
  | ins _ _ _ => rw [T.data] at hd; cases hd
  | tup ts =>
    obtain ⟨a, vs, rfl, q, r⟩ := shr_tup h
    rw [T.data] at hd
    rw [T.pd]
    exact .tup q (Shrs.dp r hd)
  | lst ts =>
    obtain ⟨a, vs, rfl, q, r⟩ := (shr_lst h)
    rw [T.data] at hd
    rw [T.pd]
    exact .lst q.sq (Shrs.dp r hd)
theorem Shrs.dp {ts : List T} {vs : List V} (h : Shrs K H S ts vs) (hd : T.datas ts = true) : DpAll K H vs (T.pds ts) := by
  cases ts with
  | nil => cases h; exact .nil
  | cons t ts =>
    obtain ⟨v, r, rfl, a, b⟩ := h.uncons
    rw [T.datas, Bool.and_eq_true] at hd
    exact .cons (Shr.dp a hd.1) (Shrs.dp b hd.2)
end
/-- fit for ==: data, not too deep -/
def T.eqok (t : T) : Bool := t.data && SeqAt.shaped t.pd
def T.eqv (t u : T) : Bool := PyData.eqv t.pd u.pd
theorem opT_eqD : OpT K (rEqD K) (fun t u R => t.eqok = true ∧ u.eqok = true ∧ R (.bl (t.eqv u))) := by
  intro S H x y t u Q R h1 h2 hg hq
  obtain ⟨g1, g2, g3⟩ := hg
  unfold T.eqok at g1 g2
  rw [Bool.and_eq_true] at g1 g2
  exact ⟨t.pd, u.pd, h1.dp g1.1, h2.dp g2.1, g1.2, g2.2, hq _ _ _ g3 (Same.refl H) (.bl _)⟩
theorem opT_neD : OpT K (rNeD K) (fun t u R => t.eqok = true ∧ u.eqok = true ∧ R (.bl (!t.eqv u))) := by
  intro S H x y t u Q R h1 h2 hg hq
  obtain ⟨g1, g2, g3⟩ := hg
  unfold T.eqok at g1 g2
  rw [Bool.and_eq_true] at g1 g2
  exact ⟨t.pd, u.pd, h1.dp g1.1, h2.dp g2.1, g1.2, g2.2, hq _ _ _ g3 (Same.refl H) (.bl _)⟩
def isNon : T → Bool
  | .non => true
  | _ => false
theorem shr_isNon {t : T} {v : V} (h : Shr K H S t v) : decide (v = V.non) = isNon t := by
  cases h <;> first | rfl | exact decide_eq_false (fun z => nomatch z)
theorem opT_isN : OpT K (fun x y H Q => y = .non ∧ Q (.bl (decide (x = .non))) H) (fun t u R => match u with | .non => R (.bl (isNon t)) | _ => False) := by
  intro S H x y t u Q R h1 h2 hg hq
  cases u <;> first | exact hg.elim | skip
  exact ⟨(shr_non h2), hq _ _ _ hg (Same.refl H) (by rw [shr_isNon h1]; exact .bl _)⟩
theorem opT_notN : OpT K (fun x y H Q => y = .non ∧ Q (.bl (!decide (x = .non))) H) (fun t u R => match u with | .non => R (.bl (!isNon t)) | _ => False) := by
  intro S H x y t u Q R h1 h2 hg hq
  cases u <;> first | exact hg.elim | skip
  exact ⟨(shr_non h2), hq _ _ _ hg (Same.refl H) (by rw [shr_isNon h1]; exact .bl _)⟩
/-- x is True, x is False -/
def rIsBV : R2 := fun x y H Q => ∃ b : Bool, y = .bl b ∧ Q (.bl (decide (x = .bl b))) H
theorem op_isBV {X : Cx} : OpR X (compareOp .Is) rIsBV := by
  intro pins s σ H x y v u Q I rx ry h
  obtain ⟨b, rfl, q⟩ := h
  cases (show u = Value.bool b from ry)
  have fin : ∀ {c : Bool}, c = decide (x = V.bl b) → EP X pins σ Q (.bool c) s := fun e => by
    subst e
    exact ⟨.bl _, H, I, rfl, q⟩
  cases x with
  | bl c =>
    cases (show v = Value.bool c from rx)
    refine wpAny_pure (fin ?_)
    by_cases e : c = b
    · subst e; simp
    · rw [decide_eq_false (fun z => e (V.bl.inj z))]
      exact beq_eq_false_iff_ne.mpr (fun z => e (Value.bool.inj z))
  | non => cases (show v = Value.none from rx); exact wpAny_pure (fin (decide_eq_false (fun z => nomatch z)).symm)
  | int _ => obtain ⟨t, rfl⟩ := rx; exact wpAny_pure (fin (decide_eq_false (fun z => nomatch z)).symm)
  | str _ => obtain ⟨t, rfl⟩ := rx; exact wpAny_pure (fin (decide_eq_false (fun z => nomatch z)).symm)
  | byt _ => obtain ⟨t, rfl⟩ := rx; exact wpAny_pure (fin (decide_eq_false (fun z => nomatch z)).symm)
  | flt _ => obtain ⟨t, rfl⟩ := rx; exact wpAny_pure (fin (decide_eq_false (fun z => nomatch z)).symm)
  | ref a => cases (show v = Value.ref a from rx); exact wpAny_pure (fin (decide_eq_false (fun z => nomatch z)).symm)
  | ty n => cases (show v = Value.type n from rx); exact wpAny_pure (fin (decide_eq_false (fun z => nomatch z)).symm)
def isBl (b : Bool) : T → Bool
  | .bl c => c == b
  | _ => false
theorem opT_isBV : OpT K rIsBV (fun t u R => match u with | .bl b => R (.bl (isBl b t)) | _ => False) := by
  intro S H x y t u Q R h1 h2 hg hq
  cases u with
  | bl b =>
    refine ⟨b, (shr_bl h2), hq _ _ _ hg (Same.refl H) ?_⟩
    have e : decide (x = V.bl b) = isBl b t := by
      cases h1 <;> first | exact decide_eq_false (fun z => nomatch z) | skip
      · rename_i c
        show decide (V.bl c = V.bl b) = (c == b)
        by_cases e : c = b
        · subst e; simp
        · rw [decide_eq_false (fun z => e (V.bl.inj z))]
          exact (beq_eq_false_iff_ne.mpr e).symm
    rw [e]
    exact .bl _
  | _ => exact hg.elim
/-- texts compared -/
theorem opT_eqS : OpT K rEq (fun t u R => match t, u with | .str a, .str b => R (.bl (decide (a = b))) | .int a, .int b => R (.bl (decide (a = b))) | .bl a, .bl b => R (.bl (decide (a = b))) | _, _ => False) := by
  intro S H x y t u Q R h1 h2 hg hq
  cases t <;> cases u <;> first | exact hg.elim | skip
  · rw [(shr_bl h1), (shr_bl h2)]
    refine ⟨rfl, hq _ _ _ hg (Same.refl H) ?_⟩
    have e : ∀ a b : Bool, decide (V.bl a = V.bl b) = decide (a = b) := by decide
    rw [e]; exact .bl _
  · rename_i a b
    rw [(shr_int h1), (shr_int h2)]
    refine ⟨rfl, hq _ _ _ hg (Same.refl H) ?_⟩
    have e : decide (V.int a = V.int b) = decide (a = b) := by
      by_cases z : a = b
      · subst z; simp
      · rw [decide_eq_false z, decide_eq_false (fun y => z (V.int.inj y))]
    rw [e]; exact .bl _
  · rename_i a b
    rw [(shr_str h1), (shr_str h2)]
    refine ⟨rfl, hq _ _ _ hg (Same.refl H) ?_⟩
    have e : decide (V.str a = V.str b) = decide (a = b) := by
      by_cases z : a = b
      · subst z; simp
      · rw [decide_eq_false z, decide_eq_false (fun y => z (V.str.inj y))]
    rw [e]; exact .bl _
end

/-! ### pure expressions -/
section
variable {X : Cx} {e a b c : Expr} {es : List Expr} {pos : Pos} {w wa wb wc : List Ent → (T → Prop) → Prop} {wA : List Ent → (List T → Prop) → Prop}
def wVar (i : Nat) : List Ent → (T → Prop) → Prop := fun ρ R => match (ρ[i]?.bind Ent.tr) with
  | some t => R t
  | none => False
def wC (t : T) : List Ent → (T → Prop) → Prop := fun _ R => R t
def w2 (g : F2) (wa wb : List Ent → (T → Prop) → Prop) : List Ent → (T → Prop) → Prop := fun ρ R => wa ρ fun x => wb ρ fun y => g x y R
def w1 (g : F1) (wa : List Ent → (T → Prop) → Prop) : List Ent → (T → Prop) → Prop := fun ρ R => wa ρ fun x => g x R
theorem tp_var (i : Nat) {x : Str} (hN : X.N[i]? = some x := by rfl) (hv : Vis X.env.scope x := by first | exact Or.inl rfl | exact Or.inr (Or.inl rfl) | exact Or.inr (Or.inr rfl)) (hd : (x == ("__debug__" : Str)) = false := by decide)
    (hcd : (x == ("__classdict__" : Str)) = false := by decide) : TPE X (.Name x pos) (wVar i) := by
  refine ⟨⟨_, pe_var hN hv hd hcd, fun S ρ σ H Q R hr hw hq => ?_⟩⟩
  unfold wVar at hw
  cases q : ρ[i]? with
  | none => rw [q] at hw; exact hw.elim
  | some e =>
    rw [q] at hw
    cases q2 : e.tr with
    | none => simp [q2] at hw
    | some t =>
      simp [q2] at hw
      obtain ⟨v, h1, h2⟩ := hr i e t q q2
      exact ⟨v, h1, hq t v H hw (Same.refl H) (h2.mono fun _ => .inl)⟩
theorem tp_c {t : T} {v : V} (h : PE X e (tC v)) (hv : ∀ S H, Shr X.K H S t v) : TPE X e (wC t) := ⟨⟨_, h, fun S ρ σ H Q R _ hw hq => hq t v H hw (Same.refl H) (hv _ _)⟩⟩
theorem tp_int {i : Int} {j : Nat} : TPE X (.Constant (.int i) j pos) (wC (.int i)) := tp_c pe_int fun _ _ => .int i
theorem tp_str {i : Str} {j : Nat} : TPE X (.Constant (.str i) j pos) (wC (.str i)) := tp_c pe_str fun _ _ => .str i
theorem tp_bl {i : Bool} {j : Nat} : TPE X (.Constant (.bool i) j pos) (wC (.bl i)) := tp_c pe_bl fun _ _ => .bl i
theorem tp_non {j : Nat} : TPE X (.Constant .none j pos) (wC .non) := tp_c pe_non fun _ _ => .non
theorem tp_globI {x : Str} {i : Int} (hg : Gl X x) (hm : ∃ t, X.mg x = some (.int i t)) (hd : (x == ("__debug__" : Str)) = false := by decide) : TPE X (.Name x pos) (wC (.int i)) := by
  obtain ⟨t, hm⟩ := hm
  exact tp_c (v := .int i) (pe_glob hg hm ⟨t, rfl⟩ hd) fun _ _ => .int i
theorem shr_up {S : Addr → Prop} {H H1 H2 : Hp} {t : T} {v : V} (h : Shr X.K H1 (fresh S H) t v) (s : Same H1 H2) : Shr X.K H2 (fresh (fresh S H) H1) t v := h.keep (fun _ => .inl) (.same s)
theorem shr_dn {S : Addr → Prop} {H H1 H2 : Hp} {t : T} {v : V} (h : Shr X.K H2 (fresh (fresh S H) H1) t v) (s : Same H H1) : Shr X.K H2 (fresh S H) t v := h.mono fun _ z => fresh_trans s z
theorem two {ta tb : TE} (ka : ∀ (S : Addr → Prop) (ρ : List Ent) (σ : St) (H : Hp) (Q : VK) (R : T → Prop), RdS X.K S ρ σ H → wa ρ R → (∀ t v H', R t → Same H H' → Shr X.K H' (fresh S H) t v → Q v H') → ta σ H Q)
    (kb : ∀ (S : Addr → Prop) (ρ : List Ent) (σ : St) (H : Hp) (Q : VK) (R : T → Prop), RdS X.K S ρ σ H → wb ρ R → (∀ t v H', R t → Same H H' → Shr X.K H' (fresh S H) t v → Q v H') → tb σ H Q)
    {r : R2} {g : F2} (hg : OpT X.K r g) {S : Addr → Prop} {ρ : List Ent} {σ : St} {H : Hp} {Q : VK} {R : T → Prop} (hr : RdS X.K S ρ σ H) (hw : w2 g wa wb ρ R) (hq : ∀ t v H', R t → Same H H' → Shr X.K H' (fresh S H) t v → Q v H') : tOp r ta tb σ H Q := by
  refine ka S ρ σ H _ _ hr hw fun t v H1 h1 s1 x1 => ?_
  refine kb (fresh S H) ρ σ H1 _ _ (hr.same s1) h1 fun u v2 H2 h2 s2 x2 => ?_
  refine hg (fresh (fresh S H) H1) H2 v v2 t u Q R (shr_up x1 s2) x2 h2 fun z v3 H3 h3 s3 x3 => ?_
  exact hq z v3 H3 h3 ((s1.trans s2).trans s3) (shr_dn (shr_dn x3 s2) s1)
theorem tp_op {op : Operator} {r : R2} {g : F2} (ho : OpR X (binaryOp op) r) (hg : OpT X.K r g) (ha : TPE X a wa) (hb : TPE X b wb) : TPE X (.BinOp a op b pos) (w2 g wa wb) := by
  obtain ⟨ta, pa, ka⟩ := ha.ok
  obtain ⟨tb, pb, kb⟩ := hb.ok
  exact ⟨⟨_, pe_op ho pa pb, fun S ρ σ H Q R hr hw hq => two ka kb hg hr hw hq⟩⟩
theorem tp_cmp {op : CmpOp} {r : R2} {g : F2} (ho : OpR X (compareOp op) r) (hg : OpT X.K r g) (ha : TPE X a wa) (hb : TPE X b wb) (hm : behindInMarks op b = false) : TPE X (.Compare a [op] [b] pos) (w2 g wa wb) := by
  obtain ⟨ta, pa, ka⟩ := ha.ok
  obtain ⟨tb, pb, kb⟩ := hb.ok
  exact ⟨⟨_, pe_cmpR ho pa pb hm, fun S ρ σ H Q R hr hw hq => two ka kb hg hr hw hq⟩⟩
theorem tp_un {op : UnaryOp} {r : V → Hp → VK → Prop} {g : F1} (ho : UnR X (unaryOp op) r) (hg : UnT X.K r g) (ha : TPE X a wa) : TPE X (.UnaryOp op a pos) (w1 g wa) := by
  obtain ⟨ta, pa, ka⟩ := ha.ok
  refine ⟨⟨_, pe_un ho pa, fun S ρ σ H Q R hr hw hq => ?_⟩⟩
  refine ka S ρ σ H _ _ hr hw fun t v H1 h1 s1 x1 => ?_
  refine hg (fresh S H) H1 v t Q R x1 h1 fun z v3 H3 h3 s3 x3 => ?_
  exact hq z v3 H3 h3 (s1.trans s3) (shr_dn x3 s1)
/-! tests -/
def asB : T → (Bool → Prop) → Prop := fun t R => match t with
  | .bl b => R b
  | _ => False
def wT (w : List Ent → (T → Prop) → Prop) : List Ent → (Bool → Prop) → Prop := fun ρ R => w ρ fun t => asB t R
theorem asB_ok {K : PySem.W.Frag} {S : Addr → Prop} {H : Hp} {t : T} {v : V} {R : Bool → Prop} (h : Shr K H S t v) (hb : asB t R) : ∃ b, v = .bl b ∧ R b := by
  cases t <;> first | exact hb.elim | skip
  exact ⟨_, (shr_bl h), hb⟩
theorem tpt_cmp {op : CmpOp} {r : R2} {g : F2} (ho : OpR X (compareOp op) r) (hg : OpT X.K r g) (ha : TPE X a wa) (hb : TPE X b wb) (hm : behindInMarks op b = false) : TPT X (.Compare a [op] [b] pos) (wT (w2 g wa wb)) := by
  obtain ⟨ta, pa, ka⟩ := ha.ok
  obtain ⟨tb, pb, kb⟩ := hb.ok
  refine ⟨⟨_, pt_cmpR ho pa pb hm, fun S ρ σ H Q R hr hw hq => two (wa := wa) (wb := wb) ka kb hg hr (R := fun t => asB t R) hw fun t v H' h1 s1 x1 => ?_⟩⟩
  obtain ⟨k, e, h⟩ := asB_ok x1 h1
  exact ⟨k, e, hq k H' h s1⟩
theorem tpt_val (ha : TPE X a wa) (he : ∀ whole, isTrue a X.env whole = (do let v ← whole; standAt a.pos; holding [v] (truthy v)) := by intro _; rfl) : TPT X a (wT wa) := by
  obtain ⟨ta, pa, ka⟩ := ha.ok
  refine ⟨⟨_, pt_val pa he, fun S ρ σ H Q R hr hw hq => ka S ρ σ H _ _ hr hw fun t v H' h1 s1 x1 => ?_⟩⟩
  obtain ⟨k, e, h⟩ := asB_ok x1 h1
  exact ⟨k, e, hq k H' h s1⟩
def wChain (g g' : F2) (wa wb wc : List Ent → (T → Prop) → Prop) : List Ent → (T → Prop) → Prop := fun ρ R => wa ρ fun x => wb ρ fun y => g x y fun z => asB z fun k => if k = true then wc ρ fun u => g' y u R else R (.bl false)
theorem chain_ok {r r' : R2} {g g' : F2} {ta tb tc : TE} (ka : ∀ (S : Addr → Prop) (ρ : List Ent) (σ : St) (H : Hp) (Q : VK) (R : T → Prop), RdS X.K S ρ σ H → wa ρ R → (∀ t v H', R t → Same H H' → Shr X.K H' (fresh S H) t v → Q v H') → ta σ H Q)
    (kb : ∀ (S : Addr → Prop) (ρ : List Ent) (σ : St) (H : Hp) (Q : VK) (R : T → Prop), RdS X.K S ρ σ H → wb ρ R → (∀ t v H', R t → Same H H' → Shr X.K H' (fresh S H) t v → Q v H') → tb σ H Q)
    (kc : ∀ (S : Addr → Prop) (ρ : List Ent) (σ : St) (H : Hp) (Q : VK) (R : T → Prop), RdS X.K S ρ σ H → wc ρ R → (∀ t v H', R t → Same H H' → Shr X.K H' (fresh S H) t v → Q v H') → tc σ H Q)
    (hg : OpT X.K r g) (hg' : OpT X.K r' g') {S : Addr → Prop} {ρ : List Ent} {σ : St} {H : Hp} {Q : VK} {R : T → Prop} (hr : RdS X.K S ρ σ H) (hw : wChain g g' wa wb wc ρ R) (hq : ∀ t v H', R t → Same H H' → Shr X.K H' (fresh S H) t v → Q v H') : tChain r r' ta tb tc σ H Q := by
  refine ka S ρ σ H _ _ hr hw fun t v H1 h1 s1 x1 => ?_
  refine kb (fresh S H) ρ σ H1 _ _ (hr.same s1) h1 fun u v2 H2 h2 s2 x2 => ?_
  refine hg (fresh (fresh S H) H1) H2 v v2 t u _ _ (shr_up x1 s2) x2 h2 fun z v3 H3 h3 s3 x3 => ?_
  obtain ⟨k, e, h⟩ := asB_ok x3 h3
  refine ⟨k, e, ?_⟩
  cases k with
  | true =>
    rw [if_pos rfl] at h ⊢
    refine kc (fresh (fresh (fresh S H) H1) H2) ρ σ H3 _ _ ((((hr.same s1).same s2)).same s3) h fun u4 v4 H4 h4 s4 x4 => ?_
    refine hg' (fresh (fresh (fresh (fresh S H) H1) H2) H3) H4 v2 v4 u u4 Q R (shr_up (shr_up x2 s3) s4) x4 h4 fun z5 v5 H5 h5 s5 x5 => ?_
    exact hq z5 v5 H5 h5 ((((s1.trans s2).trans s3).trans s4).trans s5) (shr_dn (shr_dn (shr_dn (shr_dn x5 s4) s3) s2) s1)
  | false =>
    rw [if_neg Bool.false_ne_true] at h ⊢
    exact hq _ _ _ h ((s1.trans s2).trans s3) (.bl _)
theorem tp_chain {op op' : CmpOp} {r r' : R2} {g g' : F2} (ho : OpR X (compareOp op) r) (ho' : OpR X (compareOp op') r') (hg : OpT X.K r g) (hg' : OpT X.K r' g') (ha : TPE X a wa) (hb : TPE X b wb) (hc : TPE X c wc)
    (hm : lastMarks [op, op'] [b, c] = false := by rfl) : TPE X (.Compare a [op, op'] [b, c] pos) (wChain g g' wa wb wc) := by
  obtain ⟨ta, pa, ka⟩ := ha.ok
  obtain ⟨tb, pb, kb⟩ := hb.ok
  obtain ⟨tc, pc, kc⟩ := hc.ok
  exact ⟨⟨_, pe_chain ho ho' pa pb pc hm, fun S ρ σ H Q R hr hw hq => chain_ok ka kb kc hg hg' hr hw hq⟩⟩
theorem tpt_chain {op op' : CmpOp} {r r' : R2} {g g' : F2} (ho : OpR X (compareOp op) r) (ho' : OpR X (compareOp op') r') (hg : OpT X.K r g) (hg' : OpT X.K r' g') (ha : TPE X a wa) (hb : TPE X b wb) (hc : TPE X c wc)
    (hm : lastMarks [op, op'] [b, c] = false := by rfl) : TPT X (.Compare a [op, op'] [b, c] pos) (wT (wChain g g' wa wb wc)) := by
  obtain ⟨ta, pa, ka⟩ := ha.ok
  obtain ⟨tb, pb, kb⟩ := hb.ok
  obtain ⟨tc, pc, kc⟩ := hc.ok
  refine ⟨⟨_, pt_chain ho ho' pa pb pc hm, fun S ρ σ H Q R hr hw hq => chain_ok (wa := wa) (wb := wb) (wc := wc) ka kb kc hg hg' hr (R := fun t => asB t R) hw fun t v H' h1 s1 x1 => ?_⟩⟩
  obtain ⟨k, e, h⟩ := asB_ok x1 h1
  exact ⟨k, e, hq k H' h s1⟩
end
end TL
set_option Elab.async false
set_option linter.all false
set_option maxRecDepth 100000
namespace TL
open PySem PySem.Spec PyProof.Rows L2

/-! ### what a def promises -/
inductive Par where
  | sh | io (n : Nat)
def entOf : Par → T → Ent
  | .sh, t => .ow 0 t
  | .io n, t => .io n t
inductive Pin : List Par → List T → List V → List Root → Prop
  | nil : Pin [] [] [] []
  | cons {p : Par} {ps : List Par} {t : T} {ts : List T} {v : V} {vs : List V} {F : List Addr} {rs : List Root} : Pin ps ts vs rs → Pin (p :: ps) (t :: ts) (v :: vs) (⟨entOf p t, some v, F⟩ :: rs)
/-- the changed arguments behind a call -/
inductive Pout : List Par → List T → List V → List Root → Prop
  | nil : Pout [] [] [] []
  | sh {ps : List Par} {ts : List T} {v : V} {vs : List V} {rs : List Root} : Pout ps ts vs rs → Pout (.sh :: ps) ts (v :: vs) rs
  | io {n : Nat} {ps : List Par} {t : T} {ts : List T} {v : V} {vs : List V} {F : List Addr} {rs : List Root} : Pout ps ts vs rs → Pout (.io n :: ps) (t :: ts) (v :: vs) (⟨.io n t, some v, F⟩ :: rs)
abbrev FnT := List T → (Nat → T → List T → Prop) → Prop
def callFm (S : Addr → Prop) (H : Hp) (rs : List Root) : Fm := ⟨S, H, foot rs, []⟩
def spT (K : PySem.W.Frag) (ps : List Par) (W : FnT) : Sp := fun vs H Q _ => ∃ (ts : List T) (S : Addr → Prop) (rs : List Root) (R : Nat → T → List T → Prop),
  Pin ps ts vs rs ∧ Good K (callFm S H rs) S rs H ∧ W ts R ∧
  ∀ (n : Nat) (t : T) (outs : List T) (v : V) (H' : Hp) (S' : Addr → Prop) (rs' : List Root) (F0 : List Addr), R n t outs → Pout ps outs vs rs' → Good K (callFm S H rs) S' (rs' ++ [tmp n t v F0]) H' → Q v H'

section
variable {K : PySem.W.Frag} {f : Fm} {S S' : Addr → Prop} {H H' : Hp} {τ τ' ms rs rs' : List Root} {ρ ρ' : List Ent} {σ : St}
theorem Pin.lenV : ∀ {ps : List Par} {ts : List T} {vs : List V} {rs : List Root}, Pin ps ts vs rs → vs.length = ps.length
  | _, _, _, _, .nil => rfl
  | _, _, _, _, .cons h => by rw [List.length_cons, List.length_cons, Pin.lenV h]
theorem Pin.lenR : ∀ {ps : List Par} {ts : List T} {vs : List V} {rs : List Root}, Pin ps ts vs rs → rs.length = vs.length
  | _, _, _, _, .nil => rfl
  | _, _, _, _, .cons h => by rw [List.length_cons, List.length_cons, Pin.lenR h]
theorem Pin.lenT : ∀ {ps : List Par} {ts : List T} {vs : List V} {rs : List Root}, Pin ps ts vs rs → ts.length = ps.length
  | _, _, _, _, .nil => rfl
  | _, _, _, _, .cons h => by rw [List.length_cons, List.length_cons, Pin.lenT h]
theorem Pin.outs : ∀ {ps : List Par} {ts : List T} {vs : List V} {rs : List Root}, Pin ps ts vs rs → rs.map (·.o) = vs.map some
  | _, _, _, _, .nil => rfl
  | _, _, _, _, .cons h => by rw [List.map_cons, List.map_cons, Pin.outs h]
def iniE : List Par → List T → List Ent
  | p :: ps, t :: ts => entOf p t :: iniE ps ts
  | _, _ => []
theorem Pin.ents : ∀ {ps : List Par} {ts : List T} {vs : List V} {rs : List Root}, Pin ps ts vs rs → rs.map (·.e) = iniE ps ts
  | _, _, _, _, .nil => rfl
  | _, _, _, _, .cons h => by rw [List.map_cons, Pin.ents h]; rfl
/-- what the changed parameters hold at the end -/
def outsOf : List Par → List Ent → Option (List T)
  | [], _ => some []
  | .sh :: ps, _ :: ρ => outsOf ps ρ
  | .io n :: ps, .io m t :: ρ => if n = m then (outsOf ps ρ).map (t :: ·) else none
  | _, _ => none
theorem outs_roots : ∀ {ps : List Par} {rs : List Root} {vs : List V} {outs : List T}, outsOf ps (rs.map (·.e)) = some outs → vs.length = ps.length → (∀ (i : Nat) r n t, rs[i]? = some r → r.e = .io n t → r.o = vs[i]?) →
    ∃ (rs' : List Root) (g : Nat → Nat), Pout ps outs vs rs' ∧ (∀ m r, rs'[m]? = some r → rs[g m]? = some r) ∧ (∀ m l, m < rs'.length → l < rs'.length → g m = g l → m = l)
  | [], rs, vs, outs, h, hl, _ => by
    have e : outs = [] := by cases rs <;> (rw [outsOf] at h; exact (Option.some.inj h).symm)
    subst e
    have e : vs = [] := List.eq_nil_of_length_eq_zero hl
    subst e
    exact ⟨[], fun m => m, .nil, fun m r h => by simp at h, fun m l h => by simp at h⟩
  | .sh :: ps, [], vs, outs, h, hl, _ => by simp [outsOf] at h
  | .sh :: ps, r :: rs, [], outs, h, hl, _ => by simp at hl
  | .sh :: ps, r :: rs, v :: vs, outs, h, hl, hv => by
    rw [List.map_cons, outsOf] at h
    obtain ⟨rs', g, h1, h2, h3⟩ := outs_roots h (by simpa using hl) (fun i q n t a b => by
      have := hv (i + 1) q n t (by simpa using a) b
      simpa using this)
    exact ⟨rs', fun m => g m + 1, .sh h1, fun m q e => by simpa using h2 m q e, fun m l a b c => h3 m l a b (Nat.succ.inj c)⟩
  | .io n :: ps, [], vs, outs, h, hl, _ => by simp [outsOf] at h
  | .io n :: ps, r :: rs, [], outs, h, hl, _ => by simp at hl
  | .io n :: ps, ⟨re, ro, rF⟩ :: rs, v :: vs, outs, h, hl, hv => by
    rw [List.map_cons] at h
    cases re with
    | io m t =>
      show ∃ rs' g, _
      rw [outsOf] at h
      by_cases e : n = m
      · subst e
        rw [if_pos rfl] at h
        cases q : outsOf ps (rs.map (·.e)) with
        | none => rw [q] at h; cases h
        | some outs' =>
          rw [q] at h
          have h := (Option.some.inj h).symm
          subst h
          obtain ⟨rs', g, h1, h2, h3⟩ := outs_roots q (by simpa using hl) (fun i q n t a b => by
            have := hv (i + 1) q n t (by simpa using a) b
            simpa using this)
          have e2 := hv 0 _ n t rfl rfl
          have e2 : ro = some v := by simpa using e2
          subst e2
          refine ⟨⟨.io n t, some v, rF⟩ :: rs', fun m => match m with | 0 => 0 | m + 1 => g m + 1, .io h1, fun m q e => ?_, fun m l a b c => ?_⟩
          · cases m with
            | zero => simpa using e
            | succ m => simpa using h2 m q (by simpa using e)
          · cases m with
            | zero =>
              cases l with
              | zero => rfl
              | succ l => simp at c
            | succ m =>
              cases l with
              | zero => simp at c
              | succ l =>
                have := h3 m l (by simpa using a) (by simpa using b) (by simpa using c)
                rw [this]
      · rw [if_neg e] at h; cases h
    | no => rw [outsOf] at h <;> first | cases h | simp
    | ow _ _ => rw [outsOf] at h <;> first | cases h | simp
    | ro _ => rw [outsOf] at h <;> first | cases h | simp
    | al _ _ _ => rw [outsOf] at h <;> first | cases h | simp

/-! ### statements -/
structure TEnds where
  nx : List Ent → Prop
  rt : Nat → T → List Ent → Prop
  bk : List Ent → Prop := fun _ => False
  ct : List Ent → Prop := fun _ => False
structure Lk (K : PySem.W.Frag) (f : Fm) (τ : List Root) (De : TEnds) (D : Ends) : Prop where
  nx : ∀ ρ σ H, De.nx ρ → Sta K f τ ρ σ H → D.nx σ H
  rt : ∀ n t ρ σ v F H, De.rt n t ρ → Sta K f (τ ++ [tmp n t v F]) ρ σ H → D.rt v H
  bk : ∀ ρ σ H, De.bk ρ → Sta K f τ ρ σ H → D.bk σ H
  ct : ∀ ρ σ H, De.ct ρ → Sta K f τ ρ σ H → D.ct σ H
structure TSs (X : Cx) (sts : List Stmt) (w : TEnds → List Ent → Prop) : Prop where
  ok : ∃ tt : TS, PSs X sts tt ∧ ∀ (f : Fm) (τ : List Root) (ρ : List Ent) (σ : St) (H : Hp) (De : TEnds) (D : Ends), Sta X.K f τ ρ σ H → Lk X.K f τ De D → w De ρ → tt D σ H
structure TS1 (X : Cx) (st : Stmt) (w : TEnds → List Ent → Prop) : Prop where
  ok : ∃ tt : TS, PS X st tt ∧ ∀ (f : Fm) (τ : List Root) (ρ : List Ent) (σ : St) (H : Hp) (De : TEnds) (D : Ends), Sta X.K f τ ρ σ H → Lk X.K f τ De D → w De ρ → tt D σ H
/-- the slots at the entry -/
def rho0 (ps : List Par) (ts : List T) (n : Nat) : List Ent := iniE ps ts ++ List.replicate (n - ts.length) .no
def endsOf (ps : List Par) (R : Nat → T → List T → Prop) : TEnds where
  nx := fun ρ => match outsOf ps ρ with
    | some o => R 0 .non o
    | none => False
  rt := fun n t ρ => match outsOf ps ρ with
    | some o => R n t o
    | none => False
end
section
variable {P : Program} {w : World} {K : PySem.W.Frag} {mg : Str → Option Value} {base : Heap}
/-- THE RULE for a def -/
theorem fnT {x qual : Str} {st : Stmt} {fa : Addr} {fd : FuncData} {N ps : List Str} {k : Nat} {pars : List Par} {W : FnT} (F : Fun K x qual st fa fd) (S : FnScope N ps (defScope st)) (hl : pars.length = ps.length)
    (hbody : ∀ (X : Cx) (cdv : Value) (A : Around) (outer : List Env) (s : Shared) (H : Hp) (E : XK), X = (cxOf CX0 P w K mg base N qual (defScope st) fa cdv A outer s H E).nox → Room k X.A → ∃ u, TSs X (defBody st) u ∧ ∀ ts R, W ts R → ts.length = pars.length → u (endsOf pars R) (rho0 pars ts N.length)) :
    FnOk P w K mg base CX0 (k + 1) fa fd ps (spT K pars W) := by
  refine F.ok S (fun vs H Q E h => ?_) (fun cdv A outer s H vs Q E hr h => ?_)
  · obtain ⟨ts, S0, rs, R, h1, _⟩ := h
    rw [h1.lenV, hl]
  · obtain ⟨ts, S0, rs, R, h1, h2, h3, h4⟩ := h
    obtain ⟨u, hu, hW⟩ := hbody _ cdv A outer s H E rfl hr
    obtain ⟨tt, hp, ht⟩ := hu.ok
    refine ⟨tt, hp, ?_⟩
    have hw := hW ts R h3 h1.lenT
    have hN : ps.length ≤ N.length := by have := congrArg List.length S.pre; rw [List.length_take] at this; omega
    let f : Fm := ⟨S0, H, foot rs, L2.start N vs⟩
    have hlen1 : rs.length = ts.length := by rw [h1.lenR, h1.lenV, h1.lenT]
    have hlen2 : vs.length = ts.length := by rw [h1.lenV, h1.lenT]
    have sta : Sta K f [] (rho0 pars ts N.length) (L2.start N vs) H := by
      refine ⟨S0, rs ++ List.replicate (N.length - ts.length) ⟨.no, none, []⟩, ⟨?_, ?_, ?_, fun k' j i t h => ?_, fun i n t _ => rfl, fun r h => nomatch h⟩⟩
      · rw [List.map_append, h1.ents, List.map_replicate]; rfl
      · rw [List.map_append, h1.outs, List.map_replicate]
        unfold L2.start
        rw [hlen2]
      · rw [List.append_nil]
        have G := h2
        refine ⟨fun m r e => ?_, fun m l r q e1 e2 ne a ha hb => ?_, G.trk, G.fr, G.src⟩
        · by_cases hm : m < rs.length
          · rw [List.getElem?_append_left hm] at e
            exact G.slot m r e
          · rw [List.getElem?_append_right (by omega), List.getElem?_replicate] at e
            split at e
            · have e := (Option.some.inj e).symm
              subst e
              exact ⟨rfl, List.nodup_nil, fun a z => nomatch z⟩
            · cases e
        · by_cases hm : m < rs.length
          · rw [List.getElem?_append_left hm] at e1
            by_cases hl : l < rs.length
            · rw [List.getElem?_append_left hl] at e2
              exact G.dj m l r q e1 e2 ne a ha hb
            · rw [List.getElem?_append_right (by omega), List.getElem?_replicate] at e2
              split at e2
              · have e2 := (Option.some.inj e2).symm
                subst e2
                cases hb
              · cases e2
          · rw [List.getElem?_append_right (by omega), List.getElem?_replicate] at e1
            split at e1
            · have e1 := (Option.some.inj e1).symm
              subst e1
              cases ha
            · cases e1
      · exfalso
        have mem := List.mem_of_getElem? h
        unfold rho0 at mem
        rcases List.mem_append.mp mem with mem | mem
        · rw [← h1.ents] at mem
          obtain ⟨r, hr, e⟩ := List.mem_map.mp mem
          have key : ∀ {ps : List Par} {ts : List T} {vs : List V} {rs : List Root}, Pin ps ts vs rs → ∀ r ∈ rs, r.e ≠ .al j i t := by
            intro ps ts vs rs hp
            induction hp with
            | nil => intro r h; cases h
            | @cons p _ _ _ _ _ _ _ _ ih =>
              intro r h
              rcases List.mem_cons.mp h with rfl | h
              · cases p <;> exact fun z => nomatch z
              · exact ih r h
          exact key h1 r hr e
        · rw [List.mem_replicate] at mem
          cases mem.2
    have fin : ∀ n t ρ σ v F H', (match outsOf pars ρ with | some o => R n t o | none => False) → Sta K f ([] ++ [tmp n t v F]) ρ σ H' → Q v H' := by
      intro n t ρ σ v F H' hR hs
      cases q : outsOf pars ρ with
      | none => rw [q] at hR; exact hR.elim
      | some outs =>
        rw [q] at hR
        obtain ⟨S', rsF, s'⟩ := hs
        rw [← s'.e] at q
        obtain ⟨rs', g, p1, p2, p3⟩ := outs_roots (vs := vs) q h1.lenV (fun i r n t a b => by
          have e1 : ρ[i]? = some (.io n t) := by rw [← s'.e, List.getElem?_map, a, ← b]; rfl
          have e2 := s'.io i n t e1
          have e3 : σ[i]? = some r.o := by rw [← s'.o, List.getElem?_map, a]; rfl
          rw [e3] at e2
          have e4 : (L2.start N vs)[i]? = some r.o := e2.symm
          have hio : ∃ (l : Nat), i < pars.length := ⟨0, by
            -- an io slot is a parameter
            rcases Nat.lt_or_ge i pars.length with z | z
            · exact z
            · exfalso
              obtain ⟨v', hv', _⟩ := (s'.good.slot i r (getElem?_app a)).1.own (n := n) (t := t) (by rw [b]; rfl)
              unfold L2.start at e4
              rw [List.getElem?_append_right (by rw [List.length_map, h1.lenV]; exact z), List.getElem?_replicate] at e4
              split at e4
              · rw [hv'] at e4; cases e4
              · cases e4⟩
          obtain ⟨_, hi⟩ := hio
          unfold L2.start at e4
          rw [List.getElem?_append_left (by rw [List.length_map, h1.lenV]; exact hi), List.getElem?_map] at e4
          cases q : vs[i]? with
          | none => rw [q] at e4; cases e4
          | some x => rw [q] at e4; exact (Option.some.inj e4).symm)
        refine h4 n t outs v H' S' rs' F hR p1 ?_
        have G := s'.good
        have Gp : Good K f S' (rs' ++ [tmp n t v F]) H' := by
          refine G.pick (fun m => if m < rs'.length then g m else rsF.length) (fun m r e => ?_) fun m l r q e1 e2 _ _ z => ?_
          · right
            by_cases hm : m < rs'.length
            · rw [if_pos hm]
              rw [List.getElem?_append_left hm] at e
              exact getElem?_app (p2 m r e)
            · rw [if_neg hm]
              have hl := (List.getElem?_eq_some_iff.mp e).1
              rw [List.length_append, List.length_singleton] at hl
              have em : m = rs'.length := by omega
              rw [em, List.getElem?_append_right (Nat.le_refl _), Nat.sub_self] at e
              rw [List.getElem?_append_right (Nat.le_refl _), Nat.sub_self]
              exact e
          · have l1 := (List.getElem?_eq_some_iff.mp e1).1
            have l2 := (List.getElem?_eq_some_iff.mp e2).1
            rw [List.length_append, List.length_singleton] at l1 l2
            have gl : ∀ m, m < rs'.length → g m < rsF.length := fun m hm => (List.getElem?_eq_some_iff.mp (p2 m _ (List.getElem?_eq_getElem hm))).1
            by_cases c1 : m < rs'.length
            · by_cases c2 : l < rs'.length
              · rw [if_pos c1, if_pos c2] at z; exact p3 m l c1 c2 z
              · rw [if_pos c1, if_neg c2] at z; have := gl m c1; omega
            · by_cases c2 : l < rs'.length
              · rw [if_neg c1, if_pos c2] at z; have := gl l c2; omega
              · omega
        exact ⟨Gp.slot, Gp.dj, Gp.trk, Gp.fr, Gp.src⟩
    refine ht f [] _ _ H (endsOf pars R) _ sta ⟨fun ρ σ H' h s => ?_, fun n t ρ σ v F H' h s => fin n t ρ σ v F H' h s, fun _ _ _ h => h.elim, fun _ _ _ h => h.elim⟩ hw
    obtain ⟨S', rsF, s'⟩ := s
    exact fin 0 .non ρ σ .non [] H' h ⟨S', rsF, s'.pushS .non⟩
end
end TL
set_option Elab.async false
set_option linter.all false
set_option maxRecDepth 100000
namespace TL
open PySem PySem.Spec PyProof.Rows L2

/-! ### calls of defs: pure -/
section
variable {X : Cx} {e a b c : Expr} {es : List Expr} {pos p : Pos} {w wa wb wc : List Ent → (T → Prop) → Prop} {wA : List Ent → (List T → Prop) → Prop}
def wNil : List Ent → (List T → Prop) → Prop := fun _ R => R []
def wCons (wa : List Ent → (T → Prop) → Prop) (wA : List Ent → (List T → Prop) → Prop) : List Ent → (List T → Prop) → Prop := fun ρ R => wa ρ fun x => wA ρ fun xs => R (x :: xs)
theorem tpa_nil : TPA X [] wNil := ⟨⟨_, pa_nil, fun S ρ σ H Q R _ hw hq => hq [] [] H hw (Same.refl H) .nil⟩⟩
theorem tpa_cons (ha : TPE X e wa) (hr : TPA X es wA) (hs : starEach (e :: es) X.env = (false, eval e X.env) :: starEach es X.env := by rfl) : TPA X (e :: es) (wCons wa wA) := by
  obtain ⟨ta, pa, ka⟩ := ha.ok
  obtain ⟨tb, pb, kb⟩ := hr.ok
  refine ⟨⟨_, pa_cons pa pb hs, fun S ρ σ H Q R hr hw hq => ?_⟩⟩
  refine ka S ρ σ H _ _ hr hw fun t v H1 h1 s1 x1 => ?_
  refine kb (fresh S H) ρ σ H1 _ _ (hr.same s1) h1 fun ts vs H2 h2 s2 x2 => ?_
  exact hq (t :: ts) (v :: vs) H2 h2 (s1.trans s2) (Owns.mono (fun _ z => fresh_trans s1 z) (Shrs.cons (shr_up x1 s2) x2))
/-- all parameters are only read -/
def allSh (n : Nat) : List Par := List.replicate n .sh
def shRoots : List T → List V → List Root
  | t :: ts, v :: vs => tmp 0 t v [] :: shRoots ts vs
  | _, _ => []
theorem shRoots_pin {K : PySem.W.Frag} {S : Addr → Prop} {H : Hp} : ∀ {ts : List T} {vs : List V}, Shrs K H S ts vs → Pin (allSh ts.length) ts vs (shRoots ts vs)
  | [], vs, h => by cases h; exact .nil
  | t :: ts, vs, h => by
    obtain ⟨v, r, rfl, a, b⟩ := h.uncons
    exact .cons (p := .sh) (shRoots_pin b)
theorem shRoots_foot : ∀ {ts : List T} {vs : List V}, foot (shRoots ts vs) = []
  | [], _ => rfl
  | _ :: _, [] => rfl
  | t :: ts, v :: vs => by
    show [] ++ foot (shRoots ts vs) = []
    rw [shRoots_foot]; rfl
theorem shRoots_get {K : PySem.W.Frag} {S : Addr → Prop} {H : Hp} : ∀ {ts : List T} {vs : List V}, Shrs K H S ts vs → ∀ (k : Nat) r, (shRoots ts vs)[k]? = some r → SlotR K H S r.e r.o r.F ∧ r.F = []
  | [], vs, h, k, r, e => by
    cases vs <;> (rw [shRoots] at e; simp at e)
    all_goals simp
  | t :: ts, vs, h, k, r, e => by
    obtain ⟨v, q, rfl, a, b⟩ := h.uncons
    cases k with
    | zero =>
      have e := Option.some.inj e
      subst e
      exact ⟨⟨v, rfl, a⟩, rfl⟩
    | succ k => exact shRoots_get b k r (by simpa [shRoots] using e)
theorem good_sh {K : PySem.W.Frag} {S : Addr → Prop} {H : Hp} {ts : List T} {vs : List V} (h : Shrs K H S ts vs) (ht : ∀ a, S a → H a ≠ none) : Good K (callFm S H (shRoots ts vs)) S (shRoots ts vs) H where
  slot := fun k r e => by
    obtain ⟨a, b⟩ := shRoots_get h k r e
    exact ⟨a, by rw [b]; exact List.nodup_nil, fun x hx => by rw [b] at hx; cases hx⟩
  dj := fun k l r q e1 e2 ne a ha => by
    rw [(shRoots_get h k r e1).2] at ha; cases ha
  trk := ht
  fr := fun a o h1 _ => h1
  src := fun a h => .inl h
theorem Pout.sh0 : ∀ {n : Nat} {outs : List T} {vs : List V} {rs : List Root}, Pout (allSh n) outs vs rs → outs = [] ∧ rs = []
  | 0, _, _, _, .nil => ⟨rfl, rfl⟩
  | n + 1, _, _, _, h => by
    cases h with
    | sh h => exact Pout.sh0 h
/-- the call of a def that changes nothing -/
theorem spT_pure {K : PySem.W.Frag} {n : Nat} {W : FnT} {S : Addr → Prop} {H : Hp} {ts : List T} {vs : List V} {Q : VK} {E : XK} {R : Nat → T → Prop} (h : Shrs K H S ts vs) (hn : n = ts.length) (hW : W ts fun m t _ => R m t)
    (hq : ∀ m t v H' S' F, R m t → Same H H' → Own K H' S' m t v F → (∀ a, S' a → fresh S H a ∧ H' a ≠ none) → (∀ a ∈ F, H a = none) → F.Nodup → (∀ a ∈ F, ¬ S' a) → Q v H') : spT K (allSh n) W vs H Q E := by
  subst hn
  have h' : Shrs K H (fun a => S a ∧ H a ≠ none) ts vs := Owns.trk h
  refine ⟨ts, _, _, fun m t _ => R m t, shRoots_pin h', good_sh h' (fun a z => z.2), hW, fun m t outs v H' S' rs' F0 h1 h2 G => ?_⟩
  obtain ⟨_, rfl⟩ := h2.sh0
  have hs : Same H H' := fun a o e => G.fr a o e (by show a ∉ foot _; rw [shRoots_foot]; exact fun z => nomatch z)
  obtain ⟨⟨v', e, own⟩, nd, q⟩ := G.slot 0 _ rfl
  have e := Option.some.inj e
  subst e
  refine hq m t v H' S' F0 h1 hs own (fun a ha => ⟨?_, G.trk a ha⟩) (fun a ha => ?_) nd fun a ha => (q a ha).1
  · rcases G.src a ha with z | z | z
    · exact .inl z.1
    · exact .inr z
    · have z : a ∈ foot (shRoots ts vs) := z
      rw [shRoots_foot] at z; cases z
  · rcases (q a ha).2 with z | z
    · exact z
    · have z : a ∈ foot (shRoots ts vs) := z
      rw [shRoots_foot] at z; cases z
def wCallP (n : Nat) (W : FnT) (wA : List Ent → (List T → Prop) → Prop) : List Ent → (T → Prop) → Prop := fun ρ R => wA ρ fun ts => ts.length = n ∧ W ts fun _ t _ => R t
theorem tp_call {x : Str} {fa : Addr} {fd : FuncData} {qs : List Str} {k n : Nat} {W : FnT} (F : FnOk X.prog X.w X.K X.mg X.base CX0 k fa fd qs (spT X.K (allSh n) W)) (hr : Room k X.A) (hg : Gl X x) (hm : X.mg x = some (.ref fa)) (hk : PySem.W.keepIn X.K (.ref fa) = true) (hb : Binds X.K fd qs [])
    (ha : TPA X (e :: es) wA) (hdb : (x == ("__debug__" : Str)) = false := by decide) (he : starEach (e :: es) X.env = (false, eval e X.env) :: starEach es X.env := by rfl) (hpl : (backTo pos (starEach es X.env)).any (·.1) = false := by rfl) :
    TPE X (.Call (.Name x p) (e :: es) [] pos) (wCallP n W wA) := by
  obtain ⟨ta, pa, ka⟩ := ha.ok
  refine ⟨⟨_, pe_call F hr hg hm hk hb .nil pass0 pa hdb he hpl, fun S ρ σ H Q R hr hw hq => ?_⟩⟩
  refine ka S ρ σ H _ _ hr hw fun ts vs H1 h1 s1 x1 => ?_
  rw [List.append_nil]
  refine spT_pure x1 h1.1.symm h1.2 fun m t v H2 S' F0 h2 s2 own hS hF nd hd => ?_
  refine hq t v H2 h2 (s1.trans s2) (own.shr (fun a z => fresh_trans s1 (hS a z).1) fun a z => ?_)
  exact .inr (s1.free (hF a z))
/-! ### built-in calls by values -/
def wCa (g : List T → (T → Prop) → Prop) (wA : List Ent → (List T → Prop) → Prop) : List Ent → (T → Prop) → Prop := fun ρ R => wA ρ fun ts => g ts R
theorem tp_callB {x : Str} {id : String} {r : List V → Hp → VK → Prop} {g : List T → (T → Prop) → Prop} (hc : CallR X (.builtin id) r) (hgv : CaT X.K r g) (hg : Gl X x) (hm : X.mg x = none) (hv : bootBuiltins x = some (.builtin id)) (ha : TPA X (e :: es) wA) (hn : x ≠ "__name__" := by decide) (hdb : (x == ("__debug__" : Str)) = false := by decide)
    (he : starEach (e :: es) X.env = (false, eval e X.env) :: starEach es X.env := by rfl) (hpl : (backTo pos (starEach es X.env)).any (·.1) = false := by rfl) : TPE X (.Call (.Name x p) (e :: es) [] pos) (wCa g wA) := by
  obtain ⟨ta, pa, ka⟩ := ha.ok
  refine ⟨⟨_, pe_callB hc hg hm hv pa hn hdb he hpl, fun S ρ σ H Q R hr hw hq => ?_⟩⟩
  refine ka S ρ σ H _ _ hr hw fun ts vs H1 h1 s1 x1 => ?_
  exact hgv (fresh S H) H1 vs ts Q R x1 h1 fun z v H2 h2 s2 x2 => hq z v H2 h2 (s1.trans s2) (shr_dn x2 s1)
theorem tp_callTy {x : Str} {id : String} {r : List V → Hp → VK → Prop} {g : List T → (T → Prop) → Prop} (hc : CallR X (.type id) r) (hgv : CaT X.K r g) (hg : Gl X x) (hm : X.mg x = none) (hv : bootBuiltins x = some (.type id)) (ha : TPA X (e :: es) wA) (hn : x ≠ "__name__" := by decide) (hdb : (x == ("__debug__" : Str)) = false := by decide)
    (he : starEach (e :: es) X.env = (false, eval e X.env) :: starEach es X.env := by rfl) (hpl : (backTo pos (starEach es X.env)).any (·.1) = false := by rfl) : TPE X (.Call (.Name x p) (e :: es) [] pos) (wCa g wA) := by
  obtain ⟨ta, pa, ka⟩ := ha.ok
  refine ⟨⟨_, pe_callTy hc hg hm hv pa hn hdb he hpl, fun S ρ σ H Q R hr hw hq => ?_⟩⟩
  refine ka S ρ σ H _ _ hr hw fun ts vs H1 h1 s1 x1 => ?_
  exact hgv (fresh S H) H1 vs ts Q R x1 h1 fun z v H2 h2 s2 x2 => hq z v H2 h2 (s1.trans s2) (shr_dn x2 s1)
section
variable {K : PySem.W.Frag}
theorem shrs1 {S : Addr → Prop} {H : Hp} {t : T} {vs : List V} (h : Shrs K H S [t] vs) : ∃ v, vs = [v] ∧ Shr K H S t v := by
  obtain ⟨v, r, rfl, a, b⟩ := h.uncons
  cases b
  exact ⟨v, rfl, a⟩
theorem shrs2 {S : Addr → Prop} {H : Hp} {t u : T} {vs : List V} (h : Shrs K H S [t, u] vs) : ∃ v v2, vs = [v, v2] ∧ Shr K H S t v ∧ Shr K H S u v2 := by
  obtain ⟨v, r, rfl, a, b⟩ := h.uncons
  obtain ⟨v2, rfl, b2⟩ := shrs1 b
  exact ⟨v, v2, rfl, a, b2⟩
def gLen : List T → (T → Prop) → Prop := fun ts R => match ts with
  | [.lst us] => R (.int us.length)
  | [.tup us] => R (.int us.length)
  | [.scr ns] => R (.int ns.length)
  | _ => False
theorem caT_len : CaT K (fun xs H Q => ∃ p ys, xs = [.ref p] ∧ (SqL K H p ys ∨ SqT K H p ys) ∧ Q (.int ys.length) H) gLen := by
  intro S H xs ts Q R h hg hq
  cases ts with
  | nil => exact hg.elim
  | cons t ts =>
    cases ts with
    | cons _ _ => cases t <;> exact hg.elim
    | nil =>
      obtain ⟨v, rfl, a⟩ := shrs1 h
      cases t <;> first | exact hg.elim | skip
      · obtain ⟨p, vs, rfl, q, r⟩ := shr_tup a
        refine ⟨p, vs, rfl, .inr q, hq _ _ _ hg (Same.refl H) ?_⟩
        rw [r.length]; exact .int _
      · obtain ⟨p, vs, rfl, q, r⟩ := shr_lst a
        refine ⟨p, vs, rfl, .inl q.sq, hq _ _ _ hg (Same.refl H) ?_⟩
        rw [r.length]; exact .int _
      · obtain ⟨p, rfl, q⟩ := shr_scr a
        refine ⟨p, _, rfl, .inl q.sq, hq _ _ _ hg (Same.refl H) ?_⟩
        rw [List.length_map]; exact .int _
def gInts (g : List Int → (T → Prop) → Prop) : List T → (T → Prop) → Prop := fun ts R => match ts with
  | [.lst us] => ∃ is, us = is.map T.int ∧ g is R
  | _ => False
theorem gInts_inv {g : List Int → (T → Prop) → Prop} {S : Addr → Prop} {H : Hp} {ts : List T} {xs : List V} {R : T → Prop} (h : Shrs K H S ts xs) (hg : gInts g ts R) : ∃ a is, xs = [.ref a] ∧ SqL K H a (is.map V.int) ∧ g is R := by
  cases ts with
  | nil => exact hg.elim
  | cons t ts =>
    cases ts with
    | cons _ _ => cases t <;> exact hg.elim
    | nil =>
      obtain ⟨v, rfl, a⟩ := shrs1 h
      cases t <;> first | exact hg.elim | skip
      obtain ⟨is, rfl, g2⟩ := hg
      obtain ⟨p, vs, rfl, q, r⟩ := shr_lst a
      have e := r.ints
      subst e
      exact ⟨p, is, rfl, q.sq, g2⟩
theorem caT_sum : CaT K (rSum K) (gInts fun is R => R (.int is.sum)) := by
  intro S H xs ts Q R h hg hq
  obtain ⟨a, is, rfl, q, g⟩ := gInts_inv h hg
  exact ⟨a, is, rfl, q, hq _ _ _ g (Same.refl H) (.int _)⟩
theorem caT_max : CaT K (rMax K) (gInts fun is R => 0 < is.length ∧ ∀ m, m ∈ is → (∀ y, y ∈ is → y ≤ m) → R (.int m)) := by
  intro S H xs ts Q R h hg hq
  obtain ⟨a, is, rfl, q, g⟩ := gInts_inv h hg
  exact ⟨a, is, rfl, q, g.1, fun m h1 h2 => hq _ _ _ (g.2 m h1 h2) (Same.refl H) (.int _)⟩
theorem caT_min : CaT K (rMin K) (gInts fun is R => 0 < is.length ∧ ∀ m, m ∈ is → (∀ y, y ∈ is → m ≤ y) → R (.int m)) := by
  intro S H xs ts Q R h hg hq
  obtain ⟨a, is, rfl, q, g⟩ := gInts_inv h hg
  exact ⟨a, is, rfl, q, g.1, fun m h1 h2 => hq _ _ _ (g.2 m h1 h2) (Same.refl H) (.int _)⟩
def gII (g : Int → Int → Int) : List T → (T → Prop) → Prop := fun ts R => match ts with
  | [.int i, .int j] => R (.int (g i j))
  | _ => False
theorem caT_ii {g : Int → Int → Int} : CaT K (fun xs H Q => ∃ i j, xs = [.int i, .int j] ∧ Q (.int (g i j)) H) (gII g) := by
  intro S H xs ts Q R h hg hq
  unfold gII at hg
  split at hg
  · obtain ⟨v, v2, rfl, a, b⟩ := shrs2 h
    exact ⟨_, _, by rw [shr_int a, shr_int b], hq _ _ _ hg (Same.refl H) (.int _)⟩
  · exact hg.elim
def gI (g : Int → Int) : List T → (T → Prop) → Prop := fun ts R => match ts with
  | [.int i] => R (.int (g i))
  | _ => False
theorem caT_i {g : Int → Int} : CaT K (fun xs H Q => ∃ i, xs = [.int i] ∧ Q (.int (g i)) H) (gI g) := by
  intro S H xs ts Q R h hg hq
  unfold gI at hg
  split at hg
  · obtain ⟨v, rfl, a⟩ := shrs1 h
    exact ⟨_, by rw [shr_int a], hq _ _ _ hg (Same.refl H) (.int _)⟩
  · exact hg.elim
def gInt1 : List T → (T → Prop) → Prop := fun ts R => match ts with
  | [.int i] => R (.int i)
  | [.bl k] => R (.int (if k then 1 else 0))
  | _ => False
theorem caT_int1 : CaT K (fun xs H Q => (∃ i, xs = [.int i] ∧ Q (.int i) H) ∨ ∃ k, xs = [.bl k] ∧ Q (.int (if k then 1 else 0)) H) gInt1 := by
  intro S H xs ts Q R h hg hq
  unfold gInt1 at hg
  split at hg
  · obtain ⟨v, rfl, a⟩ := shrs1 h
    exact .inl ⟨_, by rw [shr_int a], hq _ _ _ hg (Same.refl H) (.int _)⟩
  · obtain ⟨v, rfl, a⟩ := shrs1 h
    exact .inr ⟨_, by rw [shr_bl a], hq _ _ _ hg (Same.refl H) (.int _)⟩
  · exact hg.elim
/-! ### items -/
def gIx : F2 := fun t u R => match t, u with
  | .lst ts, .int i => match atI ts i with
    | some x => R x
    | none => False
  | .tup ts, .int i => match atI ts i with
    | some x => R x
    | none => False
  | .scr ns, .int i => match atI ns i with
    | some x => R (.int x)
    | none => False
  | _, _ => False
theorem shrs_at {S : Addr → Prop} {H : Hp} {ts : List T} {vs : List V} {i : Int} {t : T} (h : Shrs K H S ts vs) (e : atI ts i = some t) : ∃ v, atI vs i = some v ∧ Shr K H S t v := by
  unfold atI at e ⊢
  rw [← h.length]
  cases q : ixN ts.length i with
  | none => rw [q] at e; cases e
  | some j =>
    rw [q] at e
    exact h.get e
theorem at_map {α β : Type} {f : α → β} {xs : List α} {i : Int} {x : α} (e : atI xs i = some x) : atI (xs.map f) i = some (f x) := by
  unfold atI at e ⊢
  rw [List.length_map]
  cases q : ixN xs.length i with
  | none => rw [q] at e; cases e
  | some j =>
    rw [q] at e
    show (xs.map f)[j]? = _
    rw [List.getElem?_map, show xs[j]? = some x from e]; rfl
theorem ixT : OpT K (rIx K) gIx := by
  intro S H x y t u Q R h1 h2 hg hq
  cases t <;> first | exact hg.elim | skip
  · cases u <;> first | exact hg.elim | skip
    obtain ⟨p, vs, rfl, q, r⟩ := shr_tup h1
    rw [shr_int h2]
    simp only [gIx] at hg
    split at hg
    · rename_i e
      obtain ⟨v, e2, r2⟩ := shrs_at r e
      exact .inr (.inl ⟨p, vs, _, v, rfl, rfl, q, e2, hq _ _ _ hg (Same.refl H) (r2.mono fun _ => .inl)⟩)
    · exact hg.elim
  · cases u <;> first | exact hg.elim | skip
    obtain ⟨p, vs, rfl, q, r⟩ := shr_lst h1
    rw [shr_int h2]
    simp only [gIx] at hg
    split at hg
    · rename_i e
      obtain ⟨v, e2, r2⟩ := shrs_at r e
      exact .inl ⟨p, vs, _, v, rfl, rfl, q.sq, e2, hq _ _ _ hg (Same.refl H) (r2.mono fun _ => .inl)⟩
    · exact hg.elim
  · cases u <;> first | exact hg.elim | skip
    obtain ⟨p, rfl, q⟩ := shr_scr h1
    rw [shr_int h2]
    simp only [gIx] at hg
    split at hg
    · rename_i e
      exact .inl ⟨p, _, _, _, rfl, rfl, q.sq, at_map e, hq _ _ _ hg (Same.refl H) (.int _)⟩
    · exact hg.elim
end
theorem tp_ix (ha : TPE X a wa) (hb : TPE X b wb) (hs : PlainIx b) : TPE X (.Subscript a b pos) (w2 gIx wa wb) := by
  obtain ⟨ta, pa, ka⟩ := ha.ok
  obtain ⟨tb, pb, kb⟩ := hb.ok
  exact ⟨⟨_, pe_ix ix_seq pa pb hs, fun S ρ σ H Q R hr hw hq => two ka kb ixT hr hw hq⟩⟩
/-! ### and, or, not, if-else -/
variable {wt wt2 : List Ent → (Bool → Prop) → Prop} {rest : List Expr}
def wAnd (w1 w2 : List Ent → (Bool → Prop) → Prop) : List Ent → (Bool → Prop) → Prop := fun ρ R => w1 ρ fun b => if b = true then w2 ρ R else R false
def wOr (w1 w2 : List Ent → (Bool → Prop) → Prop) : List Ent → (Bool → Prop) → Prop := fun ρ R => w1 ρ fun b => if b = true then R true else w2 ρ R
def wNot (w1 : List Ent → (Bool → Prop) → Prop) : List Ent → (Bool → Prop) → Prop := fun ρ R => w1 ρ fun b => R (!b)
theorem TPW.pt (h : TPW X e wt) : TPT X e wt := by
  obtain ⟨ta, pa, ka⟩ := h.ok
  exact ⟨⟨_, pa.pt, ka⟩⟩
theorem tpw_and1 (ha : TPT X a wt) : TPW X (.BoolOp .And [a] pos) wt := by
  obtain ⟨ta, pa, ka⟩ := ha.ok
  exact ⟨⟨_, pw_and1 pa, ka⟩⟩
theorem tpw_or1 (ha : TPT X a wt) : TPW X (.BoolOp .Or [a] pos) wt := by
  obtain ⟨ta, pa, ka⟩ := ha.ok
  exact ⟨⟨_, pw_or1 pa, ka⟩⟩
theorem tpw_and (ha : TPT X a wt) (hb : TPW X (.BoolOp .And (b :: rest) pos) wt2) : TPW X (.BoolOp .And (a :: b :: rest) pos) (wAnd wt wt2) := by
  obtain ⟨ta, pa, ka⟩ := ha.ok
  obtain ⟨tb, pb, kb⟩ := hb.ok
  refine ⟨⟨_, pw_and pa pb, fun S ρ σ H Q R hr hw hq => ?_⟩⟩
  refine ka S ρ σ H _ _ hr hw fun k H1 h1 s1 => ?_
  cases k with
  | true => exact kb (fresh S H) ρ σ H1 _ _ (hr.same s1) h1 fun k2 H2 h2 s2 => hq k2 H2 h2 (s1.trans s2)
  | false => exact hq false H1 h1 s1
theorem tpw_or (ha : TPT X a wt) (hb : TPW X (.BoolOp .Or (b :: rest) pos) wt2) : TPW X (.BoolOp .Or (a :: b :: rest) pos) (wOr wt wt2) := by
  obtain ⟨ta, pa, ka⟩ := ha.ok
  obtain ⟨tb, pb, kb⟩ := hb.ok
  refine ⟨⟨_, pw_or pa pb, fun S ρ σ H Q R hr hw hq => ?_⟩⟩
  refine ka S ρ σ H _ _ hr hw fun k H1 h1 s1 => ?_
  cases k with
  | true => exact hq true H1 h1 s1
  | false => exact kb (fresh S H) ρ σ H1 _ _ (hr.same s1) h1 fun k2 H2 h2 s2 => hq k2 H2 h2 (s1.trans s2)
theorem tpt_not (ha : TPT X a wt) : TPT X (.UnaryOp .Not a pos) (wNot wt) := by
  obtain ⟨ta, pa, ka⟩ := ha.ok
  refine ⟨⟨_, pt_not pa, fun S ρ σ H Q R hr hw hq => ?_⟩⟩
  exact ka S ρ σ H _ _ hr hw fun k H1 h1 s1 => hq (!k) H1 h1 s1
/-- .. as values -/
def wAndV (wa wb : List Ent → (T → Prop) → Prop) : List Ent → (T → Prop) → Prop := fun ρ R => wa ρ fun x => asB x fun b => if b = true then wb ρ R else R (.bl false)
def wOrV (wa wb : List Ent → (T → Prop) → Prop) : List Ent → (T → Prop) → Prop := fun ρ R => wa ρ fun x => asB x fun b => if b = true then R (.bl true) else wb ρ R
def wNotV (wa : List Ent → (T → Prop) → Prop) : List Ent → (T → Prop) → Prop := fun ρ R => wa ρ fun x => asB x fun b => R (.bl (!b))
theorem tp_one {op : BoolOp} (ha : TPE X a wa) : TPE X (.BoolOp op [a] pos) wa := by
  obtain ⟨ta, pa, ka⟩ := ha.ok
  exact ⟨⟨_, pe_one pa, ka⟩⟩
theorem tp_and (ha : TPE X a wa) (hb : TPE X (.BoolOp .And (b :: rest) pos) wb) : TPE X (.BoolOp .And (a :: b :: rest) pos) (wAndV wa wb) := by
  obtain ⟨ta, pa, ka⟩ := ha.ok
  obtain ⟨tb, pb, kb⟩ := hb.ok
  refine ⟨⟨_, pe_and pa pb, fun S ρ σ H Q R hr hw hq => ?_⟩⟩
  refine ka S ρ σ H _ _ hr hw fun t v H1 h1 s1 x1 => ?_
  obtain ⟨k, e, h⟩ := asB_ok x1 h1
  refine ⟨k, e, ?_⟩
  cases k with
  | true => exact kb (fresh S H) ρ σ H1 _ _ (hr.same s1) h fun t2 v2 H2 h2 s2 x2 => hq t2 v2 H2 h2 (s1.trans s2) (shr_dn x2 s1)
  | false => exact hq _ _ H1 h s1 (.bl _)
theorem tp_or (ha : TPE X a wa) (hb : TPE X (.BoolOp .Or (b :: rest) pos) wb) : TPE X (.BoolOp .Or (a :: b :: rest) pos) (wOrV wa wb) := by
  obtain ⟨ta, pa, ka⟩ := ha.ok
  obtain ⟨tb, pb, kb⟩ := hb.ok
  refine ⟨⟨_, pe_or pa pb, fun S ρ σ H Q R hr hw hq => ?_⟩⟩
  refine ka S ρ σ H _ _ hr hw fun t v H1 h1 s1 x1 => ?_
  obtain ⟨k, e, h⟩ := asB_ok x1 h1
  refine ⟨k, e, ?_⟩
  cases k with
  | true => exact hq _ _ H1 h s1 (.bl _)
  | false => exact kb (fresh S H) ρ σ H1 _ _ (hr.same s1) h fun t2 v2 H2 h2 s2 x2 => hq t2 v2 H2 h2 (s1.trans s2) (shr_dn x2 s1)
theorem tp_not (ha : TPE X a wa) : TPE X (.UnaryOp .Not a pos) (wNotV wa) := by
  obtain ⟨ta, pa, ka⟩ := ha.ok
  refine ⟨⟨_, pe_not pa, fun S ρ σ H Q R hr hw hq => ?_⟩⟩
  refine ka S ρ σ H _ _ hr hw fun t v H1 h1 s1 x1 => ?_
  obtain ⟨k, e, h⟩ := asB_ok x1 h1
  exact ⟨k, e, hq _ _ H1 h s1 (.bl _)⟩
def wIf (wt : List Ent → (Bool → Prop) → Prop) (wa wb : List Ent → (T → Prop) → Prop) : List Ent → (T → Prop) → Prop := fun ρ R => wt ρ fun k => if k = true then wa ρ R else wb ρ R
theorem tp_if (hc : TPT X c wt) (ha : TPE X a wa) (hb : TPE X b wb) : TPE X (.IfExp c a b pos) (wIf wt wa wb) := by
  obtain ⟨tc, pc, kc⟩ := hc.ok
  obtain ⟨ta, pa, ka⟩ := ha.ok
  obtain ⟨tb, pb, kb⟩ := hb.ok
  refine ⟨⟨_, pe_ifExp pc pa pb, fun S ρ σ H Q R hr hw hq => ?_⟩⟩
  refine kc S ρ σ H _ _ hr hw fun k H1 h1 s1 => ?_
  cases k with
  | true => exact ka (fresh S H) ρ σ H1 _ _ (hr.same s1) h1 fun t2 v2 H2 h2 s2 x2 => hq t2 v2 H2 h2 (s1.trans s2) (shr_dn x2 s1)
  | false => exact kb (fresh S H) ρ σ H1 _ _ (hr.same s1) h1 fun t2 v2 H2 h2 s2 x2 => hq t2 v2 H2 h2 (s1.trans s2) (shr_dn x2 s1)
end
end TL
set_option Elab.async false
set_option linter.all false
set_option maxRecDepth 100000
namespace TL
open PySem PySem.Spec PyProof.Rows L2

/-! ### isinstance of a built-in class -/
inductive TyN where
  | int | bool | str | list | tup | dict
def TyN.nm : TyN → String
  | .int => "int"
  | .bool => "bool"
  | .str => "str"
  | .list => "list"
  | .tup => "tuple"
  | .dict => "dict"
def isT : TyN → T → Bool
  | .int, .int _ => true
  | .int, .bl _ => true
  | .bool, .bl _ => true
  | .str, .str _ => true
  | .list, .lst _ => true
  | .list, .scr _ => true
  | .tup, .tup _ => true
  | .dict, .dct _ _ => true
  | _, _ => false
def T.tyn : T → Option String
  | .non => some "NoneType"
  | .bl _ => some "bool"
  | .int _ => some "int"
  | .str _ => some "str"
  | .tup _ => some "tuple"
  | .lst _ => some "list"
  | .scr _ => some "list"
  | .dct _ _ => none
  | .ins _ _ _ => none
theorem kit_isT : ∀ (t : T) (n : String) (ty : TyN), t.tyn = some n → kitB n ty.nm = some (isT ty t) := by
  intro t n ty h
  cases t <;> (first | (cases h; done) | skip) <;> (have h := Option.some.inj h; subst h; cases ty <;> first | exact (show kitB _ _ = some true from by decide +kernel) | exact (show kitB _ _ = some false from by decide +kernel))
section
variable {K : PySem.W.Frag} {S : Addr → Prop} {H : Hp}
theorem shr_ty {t : T} {v : V} {n : String} (h : Shr K H S t v) (hn : t.tyn = some n) : TyX K H v (.type n) := by
  cases t with
  | non => rw [shr_non h]; cases hn; exact .base .non
  | bl b => rw [shr_bl h]; cases hn; exact .base (.bl b)
  | int i => rw [shr_int h]; cases hn; exact .base (.int i)
  | str x => rw [shr_str h]; cases hn; exact .base (.str x)
  | tup ts =>
    obtain ⟨a, vs, rfl, q, _⟩ := shr_tup h
    cases hn
    rcases q with (q | ⟨o, q⟩) | ⟨o, its, m, q, c, _⟩
    · exact .base (.tup q)
    · exact .fTuple q
    · exact .kTuple q c
  | lst ts =>
    obtain ⟨a, vs, rfl, q, _⟩ := shr_lst h
    cases hn
    exact .base (.lst q.1)
  | scr ns =>
    obtain ⟨a, rfl, q⟩ := shr_scr h
    cases hn
    rcases q with ⟨o, q⟩ | ⟨o, its, m, q, c, _⟩
    · exact .base (.frz q)
    · exact .kList q c
  | dct _ _ => cases hn
  | ins _ _ _ => cases hn
end
section
variable {X : Cx} {e a b c : Expr} {es : List Expr} {pos p p2 : Pos} {w wa wb wc : List Ent → (T → Prop) → Prop} {wA : List Ent → (List T → Prop) → Prop}
def wIsi (ty : TyN) (wa : List Ent → (T → Prop) → Prop) : List Ent → (T → Prop) → Prop := fun ρ R => wa ρ fun t => t.tyn.isSome = true ∧ R (.bl (isT ty t))
theorem tp_isi {y : Str} (ty : TyN) (hg : Gl X "isinstance") (hm : X.mg "isinstance" = none) (hg2 : Gl X y) (hm2 : X.mg y = none) (hy : bootBuiltins y = some (.type ty.nm)) (ha : TPE X a wa) (hv : bootBuiltins "isinstance" = some (.builtin "isinstance") := by decide +kernel) (hn : y ≠ "__name__" := by decide) (hdb : (y == ("__debug__" : Str)) = false := by decide)
    (he : starEach [a, .Name y p2] X.env = (false, eval a X.env) :: starEach [.Name y p2] X.env := by rfl) (he2 : starEach [.Name y p2] X.env = (false, eval (.Name y p2) X.env) :: starEach [] X.env := by rfl)
    (hpl : (backTo pos (starEach [.Name y p2] X.env)).any (·.1) = false := by rfl) : TPE X (.Call (.Name "isinstance" p) [a, .Name y p2] [] pos) (wIsi ty wa) := by
  obtain ⟨ta, pa, ka⟩ := ha.ok
  refine ⟨⟨_, pe_callB call_isi hg hm hv (pa_cons pa (pa_cons (pe_bltn (v := .ty ty.nm) hg2 hm2 hy rfl hn hdb) pa_nil he2) he) (by decide) (by decide) he hpl, fun S ρ σ H Q R hr hw hq => ?_⟩⟩
  refine ka S ρ σ H _ _ hr hw fun t v H1 h1 s1 x1 => ?_
  obtain ⟨h1, h2⟩ := h1
  cases q : t.tyn with
  | none => rw [q] at h1; cases h1
  | some n => exact ⟨v, .ty ty.nm, .type n, .type ty.nm, isT ty t, rfl, .ty _, shr_ty x1 q, kit_ty (kit_isT t n ty q), hq _ _ H1 h2 s1 (.bl _)⟩
/-! ### displays, slices, joined lists as pure values -/
def wTup (wA : List Ent → (List T → Prop) → Prop) : List Ent → (T → Prop) → Prop := fun ρ R => wA ρ fun ts => ts.length ≤ 1000 ∧ R (.tup ts)
theorem tp_tup {k : Nat} (ha : TPA X es wA) (hl : es.length ≤ 1000 := by decide) : TPE X (.Tuple es k pos) (wTup wA) := by
  obtain ⟨ta, pa, ka⟩ := ha.ok
  refine ⟨⟨_, pe_tup pa, fun S ρ σ H Q R hr hw hq => ?_⟩⟩
  refine ka S ρ σ H _ _ hr hw fun ts vs H1 h1 s1 x1 => ?_
  have hs : ∀ {p : Addr} {o : HO}, H1 p = none → Same H1 (upd H1 p o) := fun hp b o e => by rw [upd_ne (ne_of_none e hp)]; exact e
  refine ⟨Nat.le_of_lt (small1000 (by rw [← x1.length]; exact h1.1)), fun p hp => hq (.tup ts) _ _ h1.2 (s1.trans (hs hp)) ?_⟩
  exact .tup0 (SqT.of upd_same) (Owns.keep (fun _ z => z) x1 (.same (hs hp)))
def wLst (wA : List Ent → (List T → Prop) → Prop) : List Ent → (T → Prop) → Prop := fun ρ R => wA ρ fun ts => ts.length ≤ 1000 ∧ R (.lst ts)
theorem tp_lst (ha : TPA X es wA) : TPE X (.List es pos) (wLst wA) := by
  obtain ⟨ta, pa, ka⟩ := ha.ok
  refine ⟨⟨_, pe_lst pa, fun S ρ σ H Q R hr hw hq => ?_⟩⟩
  refine ka S ρ σ H _ _ hr hw fun ts vs H1 h1 s1 x1 => ?_
  have hs : ∀ {p : Addr} {o : HO}, H1 p = none → Same H1 (upd H1 p o) := fun hp b o e => by rw [upd_ne (ne_of_none e hp)]; exact e
  refine ⟨Nat.le_of_lt (small1000 (by rw [← x1.length]; exact h1.1)), fun p hp => hq (.lst ts) _ _ h1.2 (s1.trans (hs hp)) ?_⟩
  exact .sls ⟨upd_same, .inr (s1.free hp)⟩ (Owns.keep (fun _ z => z) x1 (.same (hs hp)))
def cutT (ts : List T) (lo hi : Option Int) : List T := (ts.drop (HT.sIx ts.length 0 lo)).take (HT.sIx ts.length ts.length hi - HT.sIx ts.length 0 lo)
theorem shrs_cut {K : PySem.W.Frag} {S : Addr → Prop} {H : Hp} {ts : List T} {vs : List V} {lo hi : Option Int} (h : Shrs K H S ts vs) : Shrs K H S (cutT ts lo hi) (cutV vs lo hi) := by
  unfold cutT cutV
  rw [h.length]
  exact (h.drop _).take _
structure TPO (X : Cx) (o : Option Expr) (w : List Ent → (Option Int → Prop) → Prop) : Prop where
  ok : ∃ tt : _, PO X o tt ∧ ∀ (S : Addr → Prop) (ρ : List Ent) (σ : St) (H : Hp) (Q : Option Int → Hp → Prop) (R : Option Int → Prop), RdS X.K S ρ σ H → w ρ R → (∀ i H', R i → Same H H' → Q i H') → tt σ H Q
def oNon : List Ent → (Option Int → Prop) → Prop := fun _ R => R none
theorem tpo_none : TPO X none (oNon) := ⟨⟨_, po_none, fun S ρ σ H Q R _ hw hq => hq none H hw (Same.refl H)⟩⟩
def oSom (wa : List Ent → (T → Prop) → Prop) : List Ent → (Option Int → Prop) → Prop := fun ρ R => wa ρ fun t => match t with | .int i => R (some i) | _ => False
theorem tpo_some (ha : TPE X a wa) : TPO X (some a) (oSom wa) := by
  obtain ⟨ta, pa, ka⟩ := ha.ok
  refine ⟨⟨_, po_some pa, fun S ρ σ H Q R hr hw hq => ?_⟩⟩
  refine ka S ρ σ H _ _ hr hw fun t v H1 h1 s1 x1 => ?_
  cases t <;> first | exact h1.elim | skip
  exact ⟨_, shr_int x1, hq _ H1 h1 s1⟩
def wSl (wa : List Ent → (T → Prop) → Prop) (wl wh : List Ent → (Option Int → Prop) → Prop) : List Ent → (List T → Option Int → Option Int → Prop) → Prop := fun ρ R => wa ρ fun t => wl ρ fun lo => wh ρ fun hi => match t with
  | .lst ts => R ts lo hi
  | _ => False
variable {lo hi : Option Expr} {wl wh : List Ent → (Option Int → Prop) → Prop}
def wSlice (wa : List Ent → (T → Prop) → Prop) (wl : List Ent → (Option Int → Prop) → Prop) (wh : List Ent → (Option Int → Prop) → Prop) : List Ent → (T → Prop) → Prop := fun ρ R => wSl wa wl wh ρ fun ts l h => R (.lst (cutT ts l h))
theorem tp_slice (ha : TPE X a wa) (hl : TPO X lo wl) (hh : TPO X hi wh) : TPE X (.Subscript a (.Slice lo hi none p2) pos) (wSlice wa wl wh) := by
  obtain ⟨ta, pa, ka⟩ := ha.ok
  obtain ⟨tl, pl, kl⟩ := hl.ok
  obtain ⟨th, ph, kh⟩ := hh.ok
  refine ⟨⟨_, pe_slice sl_list pa pl ph, fun S ρ σ H Q R hr hw hq => ?_⟩⟩
  refine ka S ρ σ H _ _ hr hw fun t v H1 h1 s1 x1 => ?_
  refine kl (fresh S H) ρ σ H1 _ _ (hr.same s1) h1 fun l H2 h2 s2 => ?_
  refine kh (fresh (fresh S H) H1) ρ σ H2 _ _ ((hr.same s1).same s2) h2 fun h H3 h3 s3 => ?_
  cases t <;> first | exact h3.elim | skip
  have s13 := s2.trans s3
  obtain ⟨p0, vs, rfl, q, r⟩ := shr_lst (x1.keep (fun _ z => z) (.same s13))
  have hs : ∀ {p : Addr} {o : HO}, H3 p = none → Same H3 (upd H3 p o) := fun hp b o e => by rw [upd_ne (ne_of_none e hp)]; exact e
  refine ⟨p0, vs, rfl, q.sq, fun p hp => hq _ _ _ h3 ((s1.trans s13).trans (hs hp)) ?_⟩
  exact .sls ⟨upd_same, .inr ((s1.trans s13).free hp)⟩ (Owns.keep (fun _ z => z) (shrs_cut r) (.same (hs hp)))
def gCat : F2 := fun t u R => match t, u with
  | .lst ts, .lst us => ts.length + us.length ≤ 1000000 ∧ R (.lst (ts ++ us))
  | _, _ => False
theorem million : (1000000 : Nat) ≤ sizeLine := by rw [sizeLine_eq]; decide
theorem opT_cat {K : PySem.W.Frag} : OpT K rCat gCat := by
  intro S H x y t u Q R h1 h2 hg hq
  cases t <;> first | exact hg.elim | skip
  cases u <;> first | exact hg.elim | skip
  obtain ⟨a, vs, rfl, q, r⟩ := shr_lst h1
  obtain ⟨b, ws, rfl, q2, r2⟩ := shr_lst h2
  have hs : ∀ {p : Addr} {o : HO}, H p = none → Same H (upd H p o) := fun hp b o e => by rw [upd_ne (ne_of_none e hp)]; exact e
  refine ⟨a, b, vs, ws, rfl, rfl, q.1, q2.1, by rw [← r.length, ← r2.length]; exact Nat.le_trans hg.1 million, fun p hp => hq _ _ _ hg.2 (hs hp) ?_⟩
  exact .sls ⟨upd_same, .inr hp⟩ ((Owns.keep (fun _ z => z) (r.append r2) (.same (hs hp))).mono fun _ => .inl)
theorem shrs_rep {K : PySem.W.Frag} {S : Addr → Prop} {H : Hp} {ts : List T} {vs : List V} (h : Shrs K H S ts vs) : ∀ n : Nat, Shrs K H S (List.replicate n ts).flatten (List.replicate n vs).flatten
  | 0 => .nil
  | n + 1 => by
    rw [List.replicate_succ, List.replicate_succ, List.flatten_cons, List.flatten_cons]
    exact h.append (shrs_rep h n)
def gRep : F2 := fun t u R => match t, u with
  | .lst ts, .int k => -(2 ^ 63) ≤ k ∧ k < 2 ^ 63 ∧ ts.length * k.toNat ≤ 1000000 ∧ R (.lst (List.replicate k.toNat ts).flatten)
  | _, _ => False
theorem opT_rep {K : PySem.W.Frag} : OpT K rRep gRep := by
  intro S H x y t u Q R h1 h2 hg hq
  cases t <;> first | exact hg.elim | skip
  cases u <;> first | exact hg.elim | skip
  obtain ⟨a, vs, rfl, q, r⟩ := shr_lst h1
  rw [shr_int h2]
  obtain ⟨g1, g2, g3, g4⟩ := hg
  have hs : ∀ {p : Addr} {o : HO}, H p = none → Same H (upd H p o) := fun hp b o e => by rw [upd_ne (ne_of_none e hp)]; exact e
  refine ⟨a, _, vs, rfl, rfl, q.1, g1, g2, by rw [← r.length]; exact Nat.le_trans g3 million, fun p hp => hq _ _ _ g4 (hs hp) ?_⟩
  exact .sls ⟨upd_same, .inr hp⟩ ((Owns.keep (fun _ z => z) (shrs_rep r _) (.same (hs hp))).mono fun _ => .inl)
def gKids (k : List T → (T → Prop) → Prop) : List T → (T → Prop) → Prop := fun ts R => match ts with
  | [.lst us] => k us R
  | [.tup us] => k us R
  | _ => False
theorem caT_list {K : PySem.W.Frag} : CaT K (fun xs H Q => ∃ p ys, xs = [.ref p] ∧ (SqL K H p ys ∨ SqT K H p ys) ∧ ∀ l, H l = none → Q (.ref l) (upd H l (.lst ys))) (gKids fun us R => R (.lst us)) := by
  intro S H xs ts Q R h hg hq
  have hs : ∀ {p : Addr} {o : HO}, H p = none → Same H (upd H p o) := fun hp b o e => by rw [upd_ne (ne_of_none e hp)]; exact e
  unfold gKids at hg
  split at hg
  · obtain ⟨v, rfl, a⟩ := shrs1 h
    obtain ⟨p, vs, rfl, q, r⟩ := shr_lst a
    exact ⟨p, vs, rfl, .inl q.sq, fun l hl => hq _ _ _ hg (hs hl) (.sls ⟨upd_same, .inr hl⟩ ((Owns.keep (fun _ z => z) r (.same (hs hl))).mono fun _ => .inl))⟩
  · obtain ⟨v, rfl, a⟩ := shrs1 h
    obtain ⟨p, vs, rfl, q, r⟩ := shr_tup a
    exact ⟨p, vs, rfl, .inr q, fun l hl => hq _ _ _ hg (hs hl) (.sls ⟨upd_same, .inr hl⟩ ((Owns.keep (fun _ z => z) r (.same (hs hl))).mono fun _ => .inl))⟩
  · exact hg.elim
end
/-! ### values held -/
section
variable {X : Cx} {e a b c : Expr} {es : List Expr} {pos p p2 : Pos} {w wa wb : List Ent → (T → Prop) → Prop} {v va vb : List Ent → (Nat → T → List Ent → Prop) → Prop}
def vP (w : List Ent → (T → Prop) → Prop) : List Ent → (Nat → T → List Ent → Prop) → Prop := fun ρ R => w ρ fun t => t.flat = true ∧ R 0 t ρ
theorem tv_p (h : TPE X e w) : TVE X e (vP w) := by
  obtain ⟨ta, pa, ka⟩ := h.ok
  refine ⟨⟨ta, pa, fun f τ ρ σ H Q R hs hw hq => ?_⟩⟩
  refine ka _ ρ σ H _ _ hs.rdAll hw fun t v H1 h1 s1 x1 => ?_
  obtain ⟨S, rs, s⟩ := hs.same s1
  exact hq 0 t ρ v [] H1 h1.2 ⟨S, rs, s.pushS ((x1.flat0 h1.1).2 0 S)⟩
def vSh (w : List Ent → (T → Prop) → Prop) : List Ent → (Nat → T → List Ent → Prop) → Prop := fun ρ R => w (shOnly ρ) fun t => R 0 t ρ
theorem tv_sh (h : TPE X e w) : TVE X e (vSh w) := by
  obtain ⟨ta, pa, ka⟩ := h.ok
  refine ⟨⟨ta, pa, fun f τ ρ σ H Q R hs hw hq => ?_⟩⟩
  obtain ⟨S, rs, s⟩ := hs
  refine ka S (shOnly ρ) σ H _ _ s.rdSh hw fun t v H1 h1 s1 x1 => ?_
  exact hq 0 t ρ v [] H1 h1 ⟨_, rs, (s.grow s1).pushS (shr_grown x1)⟩
def wVarV (i : Nat) : List Ent → (Nat → T → List Ent → Prop) → Prop := fun ρ R => match ρ[i]? with
  | some (.ow 0 t) => R 0 t ρ
  | some (.ow (n + 1) t) => R (n + 1) t (setE ρ i .no)
  | _ => False
theorem tv_var (i : Nat) {x : Str} (hN : X.N[i]? = some x := by rfl) (hv : Vis X.env.scope x := by first | exact Or.inl rfl | exact Or.inr (Or.inl rfl) | exact Or.inr (Or.inr rfl)) (hd : (x == ("__debug__" : Str)) = false := by decide)
    (hcd : (x == ("__classdict__" : Str)) = false := by decide) : TVE X (.Name x pos) (wVarV i) := by
  refine ⟨⟨_, pe_var hN hv hd hcd, fun f τ ρ σ H Q R hs hw hq => ?_⟩⟩
  obtain ⟨S, rs, s⟩ := hs
  unfold wVarV at hw
  split at hw
  · rename_i t he
    obtain ⟨v, h1, h2⟩ := s.copyV he
    exact ⟨v, h1, hq 0 t ρ v [] H hw ⟨S, rs, h2⟩⟩
  · rename_i n t he
    obtain ⟨v, F, rs', h1, h2⟩ := s.moveV he
    exact ⟨v, h1, hq (n + 1) t _ v F H hw ⟨S, rs', h2⟩⟩
  · exact hw.elim
def vFit (k : Nat) (v : List Ent → (Nat → T → List Ent → Prop) → Prop) : List Ent → (Nat → T → List Ent → Prop) → Prop := fun ρ R => v ρ fun n t ρ' => fit k n t ∧ R k t ρ'
theorem tv_fit (k : Nat) (h : TVE X e v) : TVE X e (vFit k v) := by
  obtain ⟨ta, pa, ka⟩ := h.ok
  refine ⟨⟨ta, pa, fun f τ ρ σ H Q R hs hw hq => ?_⟩⟩
  refine ka f τ ρ σ H _ _ hs hw fun n t ρ' v F H1 h1 s1 => ?_
  obtain ⟨S, rs, s⟩ := s1
  obtain ⟨F', S', _, s'⟩ := s.fitV h1.1
  exact hq k t ρ' v F' H1 h1.2 ⟨S', rs, s'⟩
variable {ks : List Nat} {k : Nat} {vA : List Ent → (List T → List Ent → Prop) → Prop}
def vaNil : List Ent → (List T → List Ent → Prop) → Prop := fun ρ R => R [] ρ
theorem tva_nil : TVA X [] [] (vaNil) := ⟨⟨_, pa_nil, fun f τ ρ σ H Q R hs hw hq => hq [] ρ [] [] H hw .nil (by rw [List.append_nil]; exact hs)⟩⟩
def vaCons (k : Nat) (v : List Ent → (Nat → T → List Ent → Prop) → Prop) (vA : List Ent → (List T → List Ent → Prop) → Prop) : List Ent → (List T → List Ent → Prop) → Prop := fun ρ R => v ρ fun n t ρ' => fit k n t ∧ vA ρ' fun ts ρ'' => R (t :: ts) ρ''
theorem tva_cons (k : Nat) (ha : TVE X e v) (hr : TVA X ks es vA) (hs : starEach (e :: es) X.env = (false, eval e X.env) :: starEach es X.env := by rfl) :
    TVA X (k :: ks) (e :: es) (vaCons k v vA) := by
  obtain ⟨ta, pa, ka⟩ := (tv_fit k ha).ok
  obtain ⟨tb, pb, kb⟩ := hr.ok
  refine ⟨⟨_, pa_cons pa pb hs, fun f τ ρ σ H Q R hs hw hq => ?_⟩⟩
  refine ka f τ ρ σ H _ (fun n t ρ' => n = k ∧ vA ρ' fun ts ρ'' => R (t :: ts) ρ'') hs ?_ fun n t ρ' v F H1 h1 s1 => ?_
  · have mono : ∀ {ρ : List Ent} {R R' : Nat → T → List Ent → Prop}, (∀ n t ρ, R n t ρ → R' n t ρ) → R = R' ∨ True := fun _ => .inr trivial
    have e : (fun n t ρ' => fit k n t ∧ (fun n t ρ' => n = k ∧ vA ρ' fun ts ρ'' => R (t :: ts) ρ'') k t ρ') = fun n t ρ' => fit k n t ∧ vA ρ' fun ts ρ'' => R (t :: ts) ρ'' := by
      funext n t ρ'
      simp
    show v ρ (fun n t ρ' => fit k n t ∧ (fun n t ρ' => n = k ∧ vA ρ' fun ts ρ'' => R (t :: ts) ρ'') k t ρ')
    rw [e]
    exact hw
  · obtain ⟨rfl, h1⟩ := h1
    refine kb f (τ ++ [tmp n t v F]) ρ' σ H1 _ _ s1 h1 fun ts ρ'' vs ms H2 h2 hm s2 => ?_
    refine hq (t :: ts) ρ'' (v :: vs) (tmp n t v F :: ms) H2 h2 (.cons hm) ?_
    have e : τ ++ [tmp n t v F] ++ ms = τ ++ tmp n t v F :: ms := by simp
    rw [← e]
    exact s2
theorem Tms.lens : ∀ {ks : List Nat} {ts : List T} {vs : List V} {ms : List Root}, Tms ks ts vs ms → vs.length = ks.length ∧ ts.length = ks.length
  | _, _, _, _, .nil => ⟨rfl, rfl⟩
  | _, _, _, _, .cons h => by
    obtain ⟨a, b⟩ := Tms.lens h
    exact ⟨by rw [List.length_cons, List.length_cons, a], by rw [List.length_cons, List.length_cons, b]⟩
def vLst (k : Nat) (vA : List Ent → (List T → List Ent → Prop) → Prop) : List Ent → (Nat → T → List Ent → Prop) → Prop := fun ρ R => vA ρ fun ts ρ' => R (k + 1) (.lst ts) ρ'
theorem tv_lst (k : Nat) (h : TVA X ks es vA) (hk : ∀ m ∈ ks, m = k := by simp) (hl : ks.length ≤ 1000 := by decide) : TVE X (.List es pos) (vLst k vA) := by
  obtain ⟨ta, pa, ka⟩ := h.ok
  refine ⟨⟨_, pe_lst pa, fun f τ ρ σ H Q R hs hw hq => ?_⟩⟩
  refine ka f τ ρ σ H _ _ hs hw fun ts ρ' vs ms H1 h1 hm s1 => ?_
  obtain ⟨S, rs, s⟩ := s1
  refine ⟨Nat.le_of_lt (small1000 (by rw [hm.lens.1]; exact hl)), fun p hp => ?_⟩
  have z := s.join hm hk hp (o := .lst vs) (t := .lst ts) (n := k + 1) (Fp := [p]) (.inr ⟨rfl, vs, rfl⟩) (fun H' e o => Own.lst e o)
  exact hq (k + 1) (.lst ts) ρ' _ _ _ h1 ⟨S, rs, z⟩
def vTup (k : Nat) (vA : List Ent → (List T → List Ent → Prop) → Prop) : List Ent → (Nat → T → List Ent → Prop) → Prop := fun ρ R => vA ρ fun ts ρ' => R (k + 1) (.tup ts) ρ'
theorem tv_tup (k : Nat) {m : Nat} (h : TVA X ks es vA) (hk : ∀ m ∈ ks, m = k := by simp) (hl : ks.length ≤ 1000 := by decide) : TVE X (.Tuple es m pos) (vTup k vA) := by
  obtain ⟨ta, pa, ka⟩ := h.ok
  refine ⟨⟨_, pe_tup pa, fun f τ ρ σ H Q R hs hw hq => ?_⟩⟩
  refine ka f τ ρ σ H _ _ hs hw fun ts ρ' vs ms H1 h1 hm s1 => ?_
  obtain ⟨S, rs, s⟩ := s1
  refine ⟨Nat.le_of_lt (small1000 (by rw [hm.lens.1]; exact hl)), fun p hp => ?_⟩
  have z := s.join hm hk hp (o := .tup vs) (t := .tup ts) (n := k + 1) (Fp := []) (.inl rfl) (fun H' e o => by rw [List.nil_append]; exact Own.tup e o)
  exact hq (k + 1) (.tup ts) ρ' _ _ _ h1 ⟨S, rs, z⟩
def vTup0 (vA : List Ent → (List T → List Ent → Prop) → Prop) : List Ent → (Nat → T → List Ent → Prop) → Prop := fun ρ R => vA ρ fun ts ρ' => R 0 (.tup ts) ρ'
/-- a tuple of shared values -/
theorem tv_tup0 {m : Nat} (h : TVA X ks es vA) (hk : ∀ m ∈ ks, m = 0 := by simp) (hl : ks.length ≤ 1000 := by decide) : TVE X (.Tuple es m pos) (vTup0 vA) := by
  obtain ⟨ta, pa, ka⟩ := h.ok
  refine ⟨⟨_, pe_tup pa, fun f τ ρ σ H Q R hs hw hq => ?_⟩⟩
  refine ka f τ ρ σ H _ _ hs hw fun ts ρ' vs ms H1 h1 hm s1 => ?_
  obtain ⟨S, rs, s⟩ := s1
  refine ⟨Nat.le_of_lt (small1000 (by rw [hm.lens.1]; exact hl)), fun p hp => ?_⟩
  have z := s.join hm hk hp (o := .tup vs) (t := .tup ts) (n := 0) (Fp := []) (.inl rfl) (fun H' e o => by
    have e0 := o.zero
    rw [e0] at o ⊢
    exact Own.tup0 (SqT.of e) o)
  exact hq 0 (.tup ts) ρ' _ _ _ h1 ⟨S, rs, z⟩
/-- a new list whose items are flat, out of a pure value that makes it -/
theorem tv_new {tt : TE} (hp : PE X e tt) {u : List Ent → (List T → Prop) → Prop}
    (hk : ∀ (S : Addr → Prop) (ρ : List Ent) (σ : St) (H : Hp) (Q : VK) (R : List T → Prop), RdS X.K S ρ σ H → u ρ R → (∀ ts vs H1, R ts → Same H H1 → Shrs X.K H1 (fresh S H) ts vs → ∀ p, H1 p = none → Q (.ref p) (upd H1 p (.lst vs))) → tt σ H Q) :
    TVE X e (fun ρ R => u ρ fun ts => T.flats ts = true ∧ R 1 (.lst ts) ρ) := by
  refine ⟨⟨tt, hp, fun f τ ρ σ H Q R hs hw hq => ?_⟩⟩
  refine hk _ ρ σ H _ _ hs.rdAll hw fun ts vs H1 h1 s1 x1 p hp => ?_
  obtain ⟨S, rs, s⟩ := hs.same s1
  have hsm : Same H1 (upd H1 p (.lst vs)) := fun b o e => by rw [upd_ne (ne_of_none e hp)]; exact e
  have x2 : Owns X.K (upd H1 p (.lst vs)) (fresh (fun _ => True) H) 0 ts vs [] := Owns.keep (fun _ z => z) x1 (.same hsm)
  exact hq 1 (.lst ts) ρ _ _ _ h1.2 ⟨S, rs, s.pushNew hp ((Owns.flat0 x2 h1.1).2 0 S)⟩
def vList (wA : List Ent → (List T → Prop) → Prop) : List Ent → (Nat → T → List Ent → Prop) → Prop := fun ρ R => wA ρ (fun ts => gKids (fun us _ => T.flats us = true ∧ R 1 (.lst us) ρ) ts fun _ => False)
theorem tv_list {wA : List Ent → (List T → Prop) → Prop} (hg : Gl X "list") (hm : X.mg "list" = none) (ha : TPA X [a] wA) (hv : bootBuiltins "list" = some (.type "list") := by decide +kernel)
    (he : starEach [a] X.env = (false, eval a X.env) :: starEach [] X.env := by rfl) (hpl : (backTo pos (starEach [] X.env)).any (·.1) = false := by rfl) :
    TVE X (.Call (.Name "list" p) [a] [] pos) (vList wA) := by
  obtain ⟨ta, pa, ka⟩ := ha.ok
  refine tv_new (u := fun ρ R => wA ρ (fun ts => gKids (fun us _ => R us) ts fun _ => False)) (pe_callTy call_list_of hg hm hv pa (by decide) (by decide) he hpl) fun S ρ σ H Q R hr hw hq => ?_
  refine ka S ρ σ H _ _ hr hw fun ts vs H1 h1 s1 x1 => ?_
  unfold gKids at h1
  split at h1
  · obtain ⟨v, rfl, a⟩ := shrs1 x1
    obtain ⟨p0, ws, rfl, q, r⟩ := shr_lst a
    exact ⟨p0, ws, rfl, .inl q.sq, fun l hl => hq _ ws H1 h1 s1 r l hl⟩
  · obtain ⟨v, rfl, a⟩ := shrs1 x1
    obtain ⟨p0, ws, rfl, q, r⟩ := shr_tup a
    exact ⟨p0, ws, rfl, .inr q, fun l hl => hq _ ws H1 h1 s1 r l hl⟩
  · exact h1.elim
def vRep (wa : List Ent → (T → Prop) → Prop) (wb : List Ent → (T → Prop) → Prop) : List Ent → (Nat → T → List Ent → Prop) → Prop := fun ρ R => wa ρ fun t => wb ρ fun u => gRep t u fun z => match z with | .lst ts => T.flats ts = true ∧ R 1 (.lst ts) ρ | _ => False
theorem tv_rep (ha : TPE X a wa) (hb : TPE X b wb) : TVE X (.BinOp a .Mult b pos) (vRep wa wb) := by
  obtain ⟨ta, pa, ka⟩ := ha.ok
  obtain ⟨tb, pb, kb⟩ := hb.ok
  refine tv_new (u := fun ρ R => wa ρ fun t => wb ρ fun u => gRep t u fun z => match z with | .lst ts => R ts | _ => False) (pe_op op_rep pa pb) fun S ρ σ H Q R hr hw hq => ?_
  refine ka S ρ σ H _ _ hr hw fun t v H1 h1 s1 x1 => ?_
  refine kb (fresh S H) ρ σ H1 _ _ (hr.same s1) h1 fun u v2 H2 h2 s2 x2 => ?_
  cases t <;> first | exact h2.elim | skip
  cases u <;> first | exact h2.elim | skip
  obtain ⟨a0, vs, rfl, q, r⟩ := shr_lst (x1.keep (fun _ z => z) (.same s2))
  rw [shr_int x2]
  obtain ⟨g1, g2, g3, g4⟩ := h2
  exact ⟨a0, _, vs, rfl, rfl, q.1, g1, g2, by rw [← r.length]; exact Nat.le_trans g3 million, fun p hp => hq _ _ H2 g4 (s1.trans s2) (shrs_rep r _) p hp⟩
variable {lo hi : Option Expr} {wl wh : List Ent → (Option Int → Prop) → Prop}
def vSlice (wa : List Ent → (T → Prop) → Prop) (wl : List Ent → (Option Int → Prop) → Prop) (wh : List Ent → (Option Int → Prop) → Prop) : List Ent → (Nat → T → List Ent → Prop) → Prop := fun ρ R => wSl wa wl wh ρ fun ts l h => T.flats (cutT ts l h) = true ∧ R 1 (.lst (cutT ts l h)) ρ
theorem tv_slice (ha : TPE X a wa) (hl : TPO X lo wl) (hh : TPO X hi wh) : TVE X (.Subscript a (.Slice lo hi none p2) pos) (vSlice wa wl wh) := by
  obtain ⟨ta, pa, ka⟩ := ha.ok
  obtain ⟨tl, pl, kl⟩ := hl.ok
  obtain ⟨th, ph, kh⟩ := hh.ok
  refine tv_new (u := fun ρ R => wSl wa wl wh ρ fun ts l h => R (cutT ts l h)) (pe_slice sl_list pa pl ph) fun S ρ σ H Q R hr hw hq => ?_
  refine ka S ρ σ H _ _ hr hw fun t v H1 h1 s1 x1 => ?_
  refine kl (fresh S H) ρ σ H1 _ _ (hr.same s1) h1 fun l H2 h2 s2 => ?_
  refine kh (fresh (fresh S H) H1) ρ σ H2 _ _ ((hr.same s1).same s2) h2 fun h H3 h3 s3 => ?_
  cases t <;> first | exact h3.elim | skip
  have s13 := s2.trans s3
  obtain ⟨p0, vs, rfl, q, r⟩ := shr_lst (x1.keep (fun _ z => z) (.same s13))
  exact ⟨p0, vs, rfl, q.sq, fun p hp => hq _ _ H3 h3 (s1.trans s13) (shrs_cut r) p hp⟩
end
end TL
set_option Elab.async false
set_option linter.all false
set_option maxRecDepth 100000
namespace TL
open PySem PySem.Spec PyProof.Rows L2

/-! ### calls that change slots -/
inductive AR where
  | sl (j : Nat) | tv (k : Nat)
inductive Cms (σ : St) : List AR → List T → List V → List Root → Prop
  | nil : Cms σ [] [] [] []
  | sl {j : Nat} {as : List AR} {ts : List T} {v : V} {vs : List V} {ms : List Root} : σ[j]? = some (some v) → Cms σ as ts vs ms → Cms σ (.sl j :: as) (.non :: ts) (v :: vs) ms
  | tv {k : Nat} {as : List AR} {t : T} {ts : List T} {v : V} {vs : List V} {F : List Addr} {ms : List Root} : Cms σ as ts vs ms → Cms σ (.tv k :: as) (t :: ts) (v :: vs) (tmp k t v F :: ms)
def slsOf : List AR → List Nat
  | [] => []
  | .sl j :: as => j :: slsOf as
  | .tv _ :: as => slsOf as
/-- the trees that the callee gets -/
def inT (ρ : List Ent) : List Par → List AR → List T → Option (List T)
  | [], [], [] => some []
  | .sh :: ps, .tv k :: as, t :: ts => if k = 0 then (inT ρ ps as ts).map (t :: ·) else none
  | .io n :: ps, .tv k :: as, t :: ts => if k = n then (inT ρ ps as ts).map (t :: ·) else none
  | .io n :: ps, .sl j :: as, _ :: ts => match ρ[j]?.bind Ent.own with
    | some (m, t) => if m = n then (inT ρ ps as ts).map (t :: ·) else none
    | none => none
  | _, _, _ => none
/-- which slots get which trees behind the call -/
def ups : List Par → List AR → List T → List (Nat × T)
  | .sh :: ps, _ :: as, os => ups ps as os
  | .io _ :: ps, .tv _ :: as, _ :: os => ups ps as os
  | .io _ :: ps, .sl j :: as, o :: os => (j, o) :: ups ps as os
  | _, _, _ => []
def putL (us : List (Nat × T)) : Nat → List Ent → List Ent
  | _, [] => []
  | k, e :: ρ => (match us.lookup k with
    | some t => e.put t
    | none => e) :: putL us (k + 1) ρ
theorem putL_get (us : List (Nat × T)) : ∀ (ρ : List Ent) (k i : Nat), (putL us k ρ)[i]? = ρ[i]?.map fun e => match us.lookup (k + i) with
    | some t => e.put t
    | none => e
  | [], k, i => by rw [putL]; simp
  | e :: ρ, k, 0 => by rw [putL]; simp
  | e :: ρ, k, i + 1 => by
    rw [putL, List.getElem?_cons_succ, List.getElem?_cons_succ, putL_get us ρ (k + 1) i]
    have e : k + 1 + i = k + (i + 1) := by omega
    rw [e]
theorem putL_len (us : List (Nat × T)) : ∀ (ρ : List Ent) (k : Nat), (putL us k ρ).length = ρ.length
  | [], _ => rfl
  | e :: ρ, k => by rw [putL, List.length_cons, List.length_cons, putL_len us ρ]
/-- slot -> place among the callee's changed arguments -/
def ixs : List Par → List AR → Nat → List (Nat × Nat)
  | .sh :: ps, _ :: as, d => ixs ps as d
  | .io _ :: ps, .tv _ :: as, d => ixs ps as (d + 1)
  | .io _ :: ps, .sl j :: as, d => (j, d) :: ixs ps as (d + 1)
  | _, _, _ => []
theorem lookup_mem {α : Type} {l : List (Nat × α)} {i : Nat} {x : α} (h : l.lookup i = some x) : (i, x) ∈ l := by
  induction l with
  | nil => cases h
  | cons p l ih =>
    obtain ⟨a, b⟩ := p
    by_cases e : i = a
    · subst e
      simp [List.lookup] at h
      subst h
      exact List.mem_cons_self
    · have e2 : (i == a) = false := by simpa using e
      simp [List.lookup, e2] at h
      exact List.mem_cons_of_mem _ (ih h)
theorem ixs_ge : ∀ {ps : List Par} {as : List AR} {d : Nat} {p : Nat × Nat}, p ∈ ixs ps as d → d ≤ p.2
  | .sh :: ps, a :: as, d, p, h => by rw [ixs] at h; exact ixs_ge h
  | .io n :: ps, .tv k :: as, d, p, h => by
    rw [ixs] at h
    have := ixs_ge h
    omega
  | .io n :: ps, .sl j :: as, d, p, h => by
    rw [ixs] at h
    rcases List.mem_cons.mp h with rfl | h
    · exact Nat.le_refl _
    · have := ixs_ge h
      omega
  | [], as, d, p, h => by rw [ixs] at h <;> first | cases h | simp
  | .sh :: ps, [], d, p, h => by rw [ixs] at h <;> first | cases h | simp
  | .io n :: ps, [], d, p, h => by rw [ixs] at h <;> first | cases h | simp
theorem ixs_inj : ∀ {ps : List Par} {as : List AR} {d : Nat} {i j x : Nat}, (i, x) ∈ ixs ps as d → (j, x) ∈ ixs ps as d → i = j
  | .sh :: ps, a :: as, d, i, j, x, h, g => by rw [ixs] at h g; exact ixs_inj h g
  | .io n :: ps, .tv k :: as, d, i, j, x, h, g => by rw [ixs] at h g; exact ixs_inj h g
  | .io n :: ps, .sl j' :: as, d, i, j, x, h, g => by
    rw [ixs] at h g
    rcases List.mem_cons.mp h with h | h
    · rcases List.mem_cons.mp g with g | g
      · have := Prod.mk.inj h
        have := Prod.mk.inj g
        omega
      · have h1 := Prod.mk.inj h
        have h2 := ixs_ge g
        simp at h2
        omega
    · rcases List.mem_cons.mp g with g | g
      · have h1 := Prod.mk.inj g
        have h2 := ixs_ge h
        simp at h2
        omega
      · exact ixs_inj h g
  | [], as, d, i, j, x, h, g => by rw [ixs] at h <;> first | cases h | simp
  | .sh :: ps, [], d, i, j, x, h, g => by rw [ixs] at h <;> first | cases h | simp
  | .io n :: ps, [], d, i, j, x, h, g => by rw [ixs] at h <;> first | cases h | simp
theorem getElem?_skip {α : Type} (l r : List α) (i : Nat) : (l ++ r)[l.length + i]? = r[i]? := by
  rw [List.getElem?_append_right (by omega)]
  have e : l.length + i - l.length = i := by omega
  rw [e]
section
variable {K : PySem.W.Frag} {f : Fm} {S S' : Addr → Prop} {H H' : Hp} {τ τ' ms rs rs' : List Root} {ρ ρ' : List Ent} {σ : St}
theorem slot_io {e : Ent} {o : Option V} {F : List Addr} {n : Nat} {t : T} (h : SlotR K H S e o F) (ho : e.own = some (n, t)) : SlotR K H S (.io n t) o F := h.own ho
/-- the callee's roots -/
theorem mkRc (all : List Root) (hslot : ∀ (i : Nat) r, all[i]? = some r → SlotR K H S r.e r.o r.F) (hρ : ∀ (i : Nat) e, ρ[i]? = some e → ∃ r, all[i]? = some r ∧ r.e = e ∧ σ[i]? = some r.o) :
    ∀ {ps : List Par} {as : List AR} {ts us : List T} {vs : List V} {ms : List Root} (off : Nat), Cms σ as ts vs ms → inT ρ ps as ts = some us → (slsOf as).Nodup → (∀ j ∈ slsOf as, j < off) → (∀ i r, ms[i]? = some r → all[off + i]? = some r) →
    ∃ (rc : List Root) (g : Nat → Nat), Pin ps us vs rc ∧ (∀ m r, rc[m]? = some r → ∃ q, all[g m]? = some q ∧ q.F = r.F ∧ SlotR K H S r.e r.o r.F) ∧ (∀ m l, m < rc.length → l < rc.length → g m = g l → m = l) ∧ ∀ m, m < rc.length → g m ∈ slsOf as ∨ off ≤ g m
  | ps, [], ts, us, vs, ms, off, c, h, nd, hj, hm => by
    cases c
    cases ps with
    | nil =>
      rw [inT] at h
      cases h
      exact ⟨[], fun m => m, .nil, fun m r e => by simp at e, fun m l e => by simp at e, fun m e => by simp at e⟩
    | cons p ps => cases p <;> (rw [inT] at h <;> first | cases h | simp)
  | ps, .sl j :: as, ts, us, vs, ms, off, c, h, nd, hj, hm => by
    cases c with
    | @sl _ _ ts v vs ms hv c =>
      cases ps with
      | nil => rw [inT] at h <;> first | cases h | simp
      | cons p ps =>
        cases p with
        | sh => rw [inT] at h <;> first | cases h | simp
        | io n =>
          rw [inT] at h
          cases q : ρ[j]?.bind Ent.own with
          | none => rw [q] at h; cases h
          | some mt =>
            obtain ⟨m, t⟩ := mt
            rw [q] at h
            by_cases e : m = n
            · subst e
              simp only [if_true] at h
              cases q2 : inT ρ ps as ts with
              | none => rw [q2] at h; cases h
              | some us' =>
                rw [q2] at h
                have h := (Option.some.inj h).symm
                subst h
                obtain ⟨nj, nd'⟩ := List.nodup_cons.mp (show (j :: slsOf as).Nodup from nd)
                obtain ⟨rc, g, p1, p2, p3, p4⟩ := mkRc all hslot hρ off c q2 nd' (fun k hk => hj k (List.mem_cons_of_mem _ hk)) hm
                cases q3 : ρ[j]? with
                | none => rw [q3] at q; cases q
                | some e =>
                  rw [q3] at q
                  have q : e.own = some (m, t) := q
                  obtain ⟨r, r1, r2, r3⟩ := hρ j e q3
                  have z := slot_io (n := m) (t := t) (hslot j r r1) (by rw [r2]; exact q)
                  rw [hv] at r3
                  have r3 := Option.some.inj r3
                  refine ⟨⟨.io m t, some v, r.F⟩ :: rc, fun i => match i with | 0 => j | i + 1 => g i, .cons (p := .io m) p1, fun i r' e' => ?_, fun a b ha hb z => ?_, fun i hi => ?_⟩
                  · cases i with
                    | zero =>
                      have e' := (Option.some.inj e').symm
                      subst e'
                      exact ⟨r, r1, rfl, by rw [r3]; exact z⟩
                    | succ i => exact p2 i r' (by simpa using e')
                  · cases a with
                    | zero =>
                      cases b with
                      | zero => rfl
                      | succ b =>
                        have z : j = g b := z
                        rcases p4 b (by simpa using hb) with w | w
                        · exact absurd (z ▸ w) nj
                        · have := hj j List.mem_cons_self; omega
                    | succ a =>
                      cases b with
                      | zero =>
                        have z : g a = j := z
                        rcases p4 a (by simpa using ha) with w | w
                        · exact absurd (z ▸ w) nj
                        · have := hj j List.mem_cons_self; omega
                      | succ b =>
                        have := p3 a b (by simpa using ha) (by simpa using hb) z
                        rw [this]
                  · cases i with
                    | zero => exact .inl List.mem_cons_self
                    | succ i => exact (p4 i (by simpa using hi)).imp_left (List.mem_cons_of_mem _)
            · simp only [if_neg e] at h; cases h
  | ps, .tv k :: as, ts, us, vs, ms, off, c, h, nd, hj, hm => by
    cases c with
    | @tv _ _ t ts v vs F ms c =>
      have hroot : all[off]? = some (tmp k t v F) := by have := hm 0 _ rfl; simpa using this
      have hs0 := hslot _ _ hroot
      have rest : ∀ {ps : List Par} {us' : List T} {pp : Par}, inT ρ ps as ts = some us' → SlotR K H S (entOf pp t) (some v) F →
          ∃ (rc : List Root) (g : Nat → Nat), Pin (pp :: ps) (t :: us') (v :: vs) rc ∧ (∀ m r, rc[m]? = some r → ∃ q, all[g m]? = some q ∧ q.F = r.F ∧ SlotR K H S r.e r.o r.F) ∧ (∀ m l, m < rc.length → l < rc.length → g m = g l → m = l) ∧ ∀ m, m < rc.length → g m ∈ slsOf as ∨ off ≤ g m := by
        intro ps us' pp q2 hsp
        obtain ⟨rc, g, p1, p2, p3, p4⟩ := mkRc all hslot hρ (off + 1) c q2 nd (fun k hk => Nat.lt_succ_of_lt (hj k hk)) (fun i r e => by
          have := hm (i + 1) r (by simpa using e)
          have e2 : off + 1 + i = off + (i + 1) := by omega
          rw [e2]; exact this)
        refine ⟨⟨entOf pp t, some v, F⟩ :: rc, fun i => match i with | 0 => off | i + 1 => g i, .cons p1, fun i r' e' => ?_, fun a b ha hb z => ?_, fun i hi => ?_⟩
        · cases i with
          | zero =>
            have e' := (Option.some.inj e').symm
            subst e'
            exact ⟨_, hroot, rfl, hsp⟩
          | succ i => exact p2 i r' (by simpa using e')
        · cases a with
          | zero =>
            cases b with
            | zero => rfl
            | succ b =>
              have z : off = g b := z
              rcases p4 b (by simpa using hb) with w | w
              · have := hj _ w; omega
              · omega
          | succ a =>
            cases b with
            | zero =>
              have z : g a = off := z
              rcases p4 a (by simpa using ha) with w | w
              · have := hj _ w; omega
              · omega
            | succ b =>
              have := p3 a b (by simpa using ha) (by simpa using hb) z
              rw [this]
        · cases i with
          | zero => exact .inr (Nat.le_refl _)
          | succ i => exact (p4 i (by simpa using hi)).imp_right (fun z => by show off ≤ g i; omega)
      cases ps with
      | nil => rw [inT] at h <;> first | cases h | simp
      | cons p ps =>
        cases p with
        | sh =>
          rw [inT] at h
          by_cases e : k = 0
          · subst e
            simp only [if_true] at h
            cases q2 : inT ρ ps as ts with
            | none => rw [q2] at h; cases h
            | some us' =>
              rw [q2] at h
              have h := (Option.some.inj h).symm
              subst h
              exact rest (pp := .sh) q2 hs0
          · rw [if_neg e] at h; cases h
        | io n =>
          rw [inT] at h
          by_cases e : k = n
          · subst e
            simp only [if_true] at h
            cases q2 : inT ρ ps as ts with
            | none => rw [q2] at h; cases h
            | some us' =>
              rw [q2] at h
              have h := (Option.some.inj h).symm
              subst h
              exact rest (pp := .io k) q2 hs0
          · rw [if_neg e] at h; cases h
/-- what comes back, slot by slot -/
theorem outs_ix : ∀ {ps : List Par} {as : List AR} {ts us : List T} {vs : List V} {ms rs' : List Root} {outs : List T} (d : Nat), Cms σ as ts vs ms → inT ρ ps as ts = some us → Pout ps outs vs rs' → (slsOf as).Nodup →
    (∀ j, j ∉ slsOf as → (ups ps as outs).lookup j = none ∧ (ixs ps as d).lookup j = none) ∧
    ∀ j ∈ slsOf as, ∃ n t t' v F x e, ρ[j]? = some e ∧ e.own = some (n, t) ∧ σ[j]? = some (some v) ∧ (ups ps as outs).lookup j = some t' ∧ (ixs ps as d).lookup j = some (d + x) ∧ rs'[x]? = some ⟨.io n t', some v, F⟩
  | ps, [], ts, us, vs, ms, rs', outs, d, c, h, po, nd => by
    cases c
    cases ps with
    | nil => exact ⟨fun j _ => ⟨by rw [ups] <;> simp, by rw [ixs] <;> simp⟩, fun j hj => nomatch hj⟩
    | cons p ps => cases p <;> (rw [inT] at h <;> first | cases h | simp)
  | ps, .sl j0 :: as, ts, us, vs, ms, rs', outs, d, c, h, po, nd => by
    cases c with
    | @sl _ _ ts v vs ms hv c =>
      cases ps with
      | nil => rw [inT] at h <;> first | cases h | simp
      | cons p ps =>
        cases p with
        | sh => rw [inT] at h <;> first | cases h | simp
        | io n =>
          rw [inT] at h
          cases q : ρ[j0]?.bind Ent.own with
          | none => rw [q] at h; cases h
          | some mt =>
            obtain ⟨m, t⟩ := mt
            rw [q] at h
            by_cases e : m = n
            · subst e
              simp only [if_true] at h
              cases q2 : inT ρ ps as ts with
              | none => rw [q2] at h; cases h
              | some us' =>
                cases po with
                | @io _ _ o outs _ _ F rs' po =>
                  obtain ⟨nj, nd'⟩ := List.nodup_cons.mp (show (j0 :: slsOf as).Nodup from nd)
                  obtain ⟨h1, h2⟩ := outs_ix (d + 1) c q2 po nd'
                  refine ⟨fun j hj => ?_, fun j hj => ?_⟩
                  · have hne : j ≠ j0 := fun z => hj (z ▸ List.mem_cons_self)
                    have hb : (j == j0) = false := by simpa using hne
                    obtain ⟨a, b⟩ := h1 j fun z => hj (List.mem_cons_of_mem _ z)
                    exact ⟨by simp [ups, List.lookup, hb, a], by simp [ixs, List.lookup, hb, b]⟩
                  · rcases List.mem_cons.mp hj with rfl | hj
                    · cases q3 : ρ[j]? with
                      | none => rw [q3] at q; cases q
                      | some e =>
                        rw [q3] at q
                        exact ⟨m, t, o, v, F, 0, e, rfl, q, hv, by simp [ups, List.lookup], by simp [ixs, List.lookup], rfl⟩
                    · have hne : j ≠ j0 := fun z => nj (z ▸ hj)
                      have hb : (j == j0) = false := by simpa using hne
                      obtain ⟨n', t0, t', v', F', x, e, a1, a2, a3, a4, a5, a6⟩ := h2 j hj
                      exact ⟨n', t0, t', v', F', x + 1, e, a1, a2, a3, by simp [ups, List.lookup, hb, a4], by simp [ixs, List.lookup, hb, a5]; omega, by simpa using a6⟩
            · simp only [if_neg e] at h; cases h
  | ps, .tv k :: as, ts, us, vs, ms, rs', outs, d, c, h, po, nd => by
    cases c with
    | @tv _ _ t ts v vs F ms c =>
      cases ps with
      | nil => rw [inT] at h <;> first | cases h | simp
      | cons p ps =>
        cases p with
        | sh =>
          rw [inT] at h
          by_cases e : k = 0
          · subst e
            simp only [if_true] at h
            cases q2 : inT ρ ps as ts with
            | none => rw [q2] at h; cases h
            | some us' =>
              cases po with
              | sh po =>
                obtain ⟨h1, h2⟩ := outs_ix d c q2 po nd
                exact ⟨fun j hj => by have := h1 j hj; exact ⟨by rw [ups]; exact this.1, by rw [ixs]; exact this.2⟩, fun j hj => by
                  obtain ⟨n', t0, t', v', F', x, e, a1, a2, a3, a4, a5, a6⟩ := h2 j hj
                  exact ⟨n', t0, t', v', F', x, e, a1, a2, a3, by rw [ups]; exact a4, by rw [ixs]; exact a5, a6⟩⟩
          · rw [if_neg e] at h; cases h
        | io n =>
          rw [inT] at h
          by_cases e : k = n
          · subst e
            simp only [if_true] at h
            cases q2 : inT ρ ps as ts with
            | none => rw [q2] at h; cases h
            | some us' =>
              cases po with
              | @io _ _ o outs _ _ F' rs' po =>
                obtain ⟨h1, h2⟩ := outs_ix (d + 1) c q2 po nd
                exact ⟨fun j hj => by have := h1 j hj; exact ⟨by rw [ups]; exact this.1, by rw [ixs]; exact this.2⟩, fun j hj => by
                  obtain ⟨n', t0, t', v', F', x, e, a1, a2, a3, a4, a5, a6⟩ := h2 j hj
                  exact ⟨n', t0, t', v', F', x + 1, e, a1, a2, a3, by rw [ups]; exact a4, by rw [ixs, a5]; congr 1; omega, by simpa using a6⟩⟩
          · rw [if_neg e] at h; cases h
end
end TL
set_option Elab.async false
set_option linter.all false
set_option maxRecDepth 100000
namespace TL
open PySem PySem.Spec PyProof.Rows L2
section
variable {K : PySem.W.Frag} {f : Fm} {S S' : Addr → Prop} {H H' : Hp} {τ τ' ms rs rs' : List Root} {ρ ρ' : List Ent} {σ : St}
def Ent.treeIo : Ent → T
  | .io _ t => t
  | _ => .non
/-- a root behind the call -/
def newR (js : List Nat) (U : List (Nat × Nat)) (rs' : List Root) (i : Nat) (r : Root) : Root := match U.lookup i with
  | some x => match rs'[x]? with
    | some q => ⟨r.e.put q.e.treeIo, r.o, q.F⟩
    | none => r
  | none => ⟨noRo js r.e, r.o, if (noRo js r.e).tr.isSome then r.F else []⟩
theorem mem_footOf {a : Addr} {m : Nat} {r : Root} (h : ms[m]? = some r) (ha : a ∈ r.F) : a ∈ foot ms := List.mem_flatMap.mpr ⟨r, List.mem_of_getElem? h, ha⟩
theorem call_core {ps : List Par} {as : List AR} {ts us : List T} {vs : List V} {W : FnT} {R : Nat → T → List T → Prop} {Q : VK} {E : XK}
    (s : StaW K f (τ ++ ms) ρ σ H S rs) (c : Cms σ as ts vs ms) (hin : inT ρ ps as ts = some us) (nd : (slsOf as).Nodup) (hW : W us R)
    (k : ∀ n t outs v F H', R n t outs → Sta K f (τ ++ [tmp n t v F]) (putL (ups ps as outs) 0 (killJ (slsOf as) ρ)) σ H' → Q v H') : spT K ps W vs H Q E := by
  have hsl := fun (i : Nat) r (e : (rs ++ (τ ++ ms))[i]? = some r) => (s.good.slot i r e).1
  have hρ : ∀ (i : Nat) e, ρ[i]? = some e → ∃ r, (rs ++ (τ ++ ms))[i]? = some r ∧ r.e = e ∧ σ[i]? = some r.o := fun i e h => by
    obtain ⟨r, a, b, c, _⟩ := s.get h
    exact ⟨r, a, b, c⟩
  have hoff : ∀ j ∈ slsOf as, j < rs.length := fun j hj => by
    have key : ∀ {ps : List Par} {as : List AR} {ts us : List T}, inT ρ ps as ts = some us → j ∈ slsOf as → j < ρ.length := by
      intro ps as
      induction as generalizing ps with
      | nil => intro ts us _ h; cases h
      | cons a as ih =>
        intro ts us h hj
        cases ps with
        | nil => cases a <;> (rw [inT] at h <;> first | cases h | simp)
        | cons p ps =>
          cases ts with
          | nil => cases a <;> cases p <;> (rw [inT] at h <;> first | cases h | simp)
          | cons t ts =>
            cases a with
            | sl j0 =>
              cases p with
              | sh => rw [inT] at h <;> first | cases h | simp
              | io n =>
                rw [inT] at h
                cases q : ρ[j0]?.bind Ent.own with
                | none => rw [q] at h; cases h
                | some mt =>
                  obtain ⟨m, t'⟩ := mt
                  rw [q] at h
                  rcases List.mem_cons.mp hj with rfl | hj
                  · cases q3 : ρ[j]? with
                    | none => rw [q3] at q; cases q
                    | some e => exact (List.getElem?_eq_some_iff.mp q3).1
                  · by_cases e : m = n
                    · simp only [if_pos e] at h
                      cases q2 : inT ρ ps as ts with
                      | none => rw [q2] at h; cases h
                      | some us' => exact ih q2 hj
                    · simp only [if_neg e] at h; cases h
            | tv k0 =>
              cases p with
              | sh =>
                rw [inT] at h
                by_cases e : k0 = 0
                · rw [if_pos e] at h
                  cases q2 : inT ρ ps as ts with
                  | none => rw [q2] at h; cases h
                  | some us' => exact ih q2 hj
                · rw [if_neg e] at h; cases h
              | io n =>
                rw [inT] at h
                by_cases e : k0 = n
                · rw [if_pos e] at h
                  cases q2 : inT ρ ps as ts with
                  | none => rw [q2] at h; cases h
                  | some us' => exact ih q2 hj
                · rw [if_neg e] at h; cases h
    rw [s.len]
    exact key hin hj
  have hms : ∀ i r, ms[i]? = some r → (rs ++ (τ ++ ms))[(rs ++ τ).length + i]? = some r := fun i r e => by
    rw [← List.append_assoc, getElem?_skip]; exact e
  obtain ⟨rc, g, p1, p2, p3, p4⟩ := mkRc (rs ++ (τ ++ ms)) hsl hρ (rs ++ τ).length c hin nd (fun j hj => by have := hoff j hj; rw [List.length_append]; omega) hms
  -- facts of the callee's footprint
  have frc : ∀ a ∈ foot rc, ∃ (m : Nat) (q : Root), m < rc.length ∧ (rs ++ (τ ++ ms))[g m]? = some q ∧ a ∈ q.F := fun a ha => by
    obtain ⟨m, r, h1, h2⟩ := mem_foot ha
    obtain ⟨q, a1, a2, _⟩ := p2 m r h1
    exact ⟨m, q, (List.getElem?_eq_some_iff.mp h1).1, a1, a2 ▸ h2⟩
  have Gc : Good K (callFm S H rc) S rc H := {
    slot := fun m r e => by
      obtain ⟨q, a1, a2, a3⟩ := p2 m r e
      obtain ⟨_, b2, b3⟩ := s.good.slot _ _ a1
      rw [a2] at b2 b3
      exact ⟨a3, b2, fun a ha => ⟨(b3 a ha).1, .inr (mem_footOf e ha)⟩⟩
    dj := fun m l r q e1 e2 ne a ha hb => by
      obtain ⟨q1, a1, a2, _⟩ := p2 m r e1
      obtain ⟨q2, b1, b2, _⟩ := p2 l q e2
      exact s.good.dj _ _ _ _ a1 b1 (fun z => ne (p3 m l (List.getElem?_eq_some_iff.mp e1).1 (List.getElem?_eq_some_iff.mp e2).1 z)) a (a2 ▸ ha) (b2 ▸ hb)
    trk := s.good.trk
    fr := fun a o h1 _ => h1
    src := fun a h => .inl h }
  refine ⟨us, S, rc, R, p1, Gc, hW, fun n t outs v H' S' rs' F0 hR po G' => k n t outs v F0 H' hR ?_⟩
  obtain ⟨o1, o2⟩ := outs_ix 0 c hin po nd
  let U := ixs ps as 0
  let js := slsOf as
  have kept : ∀ a o, H a = some o → a ∉ foot rc → H' a = some o := fun a o h1 h2 => G'.fr a o h1 h2
  have nonf : ∀ {i : Nat} {q : Root}, (rs ++ (τ ++ ms))[i]? = some q → i ∉ js → i < (rs ++ τ).length → ∀ a ∈ q.F, a ∉ foot rc := fun {i q} hi hj hl a ha hf => by
    obtain ⟨m, q', h0, h1, h2⟩ := frc a hf
    have ne : i ≠ g m := fun z => by
      rcases p4 m h0 with w | w
      · exact hj (z ▸ w)
      · omega
    exact s.good.dj _ _ _ _ hi h1 ne a ha h2
  have nonS : ∀ a ∈ foot rc, ¬ S a := fun a hf => by
    obtain ⟨m, q', h0, h1, h2⟩ := frc a hf
    exact ((s.good.slot _ _ h1).2.2 a h2).1
  have lstF : ∀ a ∈ foot rc, ∃ xs, H a = some (.lst xs) := fun a hf => by
    obtain ⟨m, q', h0, h1, h2⟩ := frc a hf
    exact s.good.own_there h1 h2
  have kp : ∀ F : List Addr, (∀ a ∈ F, a ∉ foot rc) → Kp H H' S F := fun F hF => ⟨fun a xs h => kept a _ h (fun z => by
      obtain ⟨ys, w⟩ := lstF a z
      rw [h] at w
      cases w), fun a o u h => kept a _ h (fun z => by
      obtain ⟨ys, w⟩ := lstF a z
      rw [h] at w
      cases w), fun a xs ha h => kept a _ h (fun z => by
      rcases ha with ha | ha
      · exact nonS a z ha
      · exact hF a ha z)⟩
  have hw : ∀ a, (H a = none ∨ a ∈ foot rc) → f.H0 a = none ∨ a ∈ f.W := fun a h => by
    rcases h with h | h
    · exact s.good.none_src h
    · obtain ⟨m, q', h0, h1, h2⟩ := frc a h
      exact ((s.good.slot _ _ h1).2.2 a h2).2
  have nS2 : ∀ a, ¬ S' a → (H a = none ∨ a ∈ foot rc) → ¬ (S a ∨ S' a) := fun a h1 h2 z => by
    rcases z with z | z
    · rcases h2 with h2 | h2
      · exact s.good.trk a z h2
      · exact nonS a h2 z
    · exact h1 z
  have oldS : ∀ {F : List Addr}, (∀ a ∈ F, a ∉ foot rc ∧ ¬ S a ∧ H a ≠ none) → ∀ a ∈ F, ¬ (S a ∨ S' a) := fun {F} hF a ha z => by
    obtain ⟨h1, h2, h3⟩ := hF a ha
    rcases z with z | z
    · exact h2 z
    · rcases G'.src a z with w | w | w
      · exact h2 w
      · exact h3 w
      · exact h1 w
  have thereN : ∀ {i : Nat} {q : Root}, (rs ++ (τ ++ ms))[i]? = some q → ∀ a ∈ q.F, H a ≠ none := fun hi a ha z => by
    obtain ⟨xs, w⟩ := s.good.own_there hi ha
    rw [z] at w; cases w
  -- the roots behind the call
  have hjU : ∀ {i x : Nat}, U.lookup i = some x → i ∈ js := fun {i x} h => by
    by_cases hj : i ∈ js
    · exact hj
    · have := (o1 i hj).2
      rw [show U.lookup i = none from this] at h; cases h
  have getN : ∀ {i : Nat} {r : Root}, (rs.mapIdx (newR js U rs'))[i]? = some r → ∃ r0, rs[i]? = some r0 ∧ r = newR js U rs' i r0 := fun {i r} h => by
    rw [List.getElem?_mapIdx] at h
    cases q : rs[i]? with
    | none => rw [q] at h; cases h
    | some r0 => rw [q] at h; exact ⟨r0, rfl, (Option.some.inj h).symm⟩
  -- the two kinds of root
  have two : ∀ {i : Nat} {r : Root}, (rs.mapIdx (newR js U rs') ++ τ)[i]? = some r →
      (∃ (x : Nat) (q : Root) (r0 : Root), U.lookup i = some x ∧ rs'[x]? = some q ∧ r.F = q.F ∧ rs[i]? = some r0 ∧ r.o = r0.o ∧ r.e = r0.e.put q.e.treeIo ∧ (∃ (n : Nat) (t t' : T) (v : V) (F : List Addr), q = ⟨.io n t', some v, F⟩ ∧ r0.e.own = some (n, t) ∧ r0.o = some v)) ∨
      (∃ q, (rs ++ (τ ++ ms))[i]? = some q ∧ i ∉ js ∧ i < (rs ++ τ).length ∧ ((r.e = .no ∧ r.F = []) ∨ (r = q ∧ ∀ t, q.e ≠ .ro t))) := fun {i r} h => by
    by_cases hlt : i < rs.length
    · rw [List.getElem?_append_left (by rw [List.length_mapIdx]; exact hlt)] at h
      obtain ⟨r0, h1, h2⟩ := getN h
      cases hU : U.lookup i with
      | some x =>
        left
        obtain ⟨n0, t0, t', v', F', x', e, a1, a2, a3, a4, a5, a6⟩ := o2 i (hjU hU)
        have ex : x = x' := by
          have a5 : U.lookup i = some (0 + x') := a5
          rw [hU] at a5
          have := Option.some.inj a5
          omega
        subst ex
        obtain ⟨r1, b1, b2, b3, b4⟩ := s.get a1
        rw [h1] at b4
        have b4 := Option.some.inj b4
        subst b4
        have er : r = ⟨r0.e.put t', r0.o, F'⟩ := by
          rw [h2]
          unfold newR
          rw [hU]
          simp only [a6]
          rfl
        refine ⟨x, _, r0, rfl, a6, by rw [er], h1, by rw [er], by rw [er]; rfl, n0, t0, t', v', F', rfl, by rw [b2]; exact a2, ?_⟩
        rw [a3] at b3
        exact (Option.some.inj b3).symm
      | none =>
        right
        have hj : i ∉ js := fun z => by
          obtain ⟨_, _, _, _, _, x', _, _, _, _, _, a5, _⟩ := o2 i z
          rw [show U.lookup i = some (0 + x') from a5] at hU; cases hU
        refine ⟨r0, getElem?_app h1, hj, by rw [List.length_append]; omega, ?_⟩
        have er : r = ⟨noRo js r0.e, r0.o, if (noRo js r0.e).tr.isSome then r0.F else []⟩ := by
          rw [h2]; unfold newR; rw [hU]
        rcases noRo_cases js r0.e with z | z
        · cases e0 : r0.e with
          | no =>
            left
            rw [er, z, e0]
            exact ⟨rfl, rfl⟩
          | ro t => rw [e0] at z; cases z
          | ow a b =>
            right
            have : (noRo js r0.e).tr.isSome = true := by rw [z, e0]; rfl
            rw [er, if_pos this, z]
            exact ⟨rfl, fun t z => by first | cases z | (rw [e0] at z; cases z)⟩
          | io a b =>
            right
            have : (noRo js r0.e).tr.isSome = true := by rw [z, e0]; rfl
            rw [er, if_pos this, z]
            exact ⟨rfl, fun t z => by first | cases z | (rw [e0] at z; cases z)⟩
          | al a b c =>
            right
            have : (noRo js r0.e).tr.isSome = true := by rw [z, e0]; rfl
            rw [er, if_pos this, z]
            exact ⟨rfl, fun t z => by first | cases z | (rw [e0] at z; cases z)⟩
        · left
          rw [er, z]
          exact ⟨rfl, rfl⟩
    · right
      have hl := (List.getElem?_eq_some_iff.mp h).1
      rw [List.length_append, List.length_mapIdx] at hl
      rw [List.getElem?_append_right (by rw [List.length_mapIdx]; omega), List.length_mapIdx] at h
      refine ⟨r, ?_, fun z => hlt (hoff i z), by rw [List.length_append]; omega, .inr ⟨rfl, fun t z => ?_⟩⟩
      · rw [List.getElem?_append_right (by omega)]
        exact getElem?_app h
      · obtain ⟨n0, t0, w⟩ := s.tm r (List.mem_append_left _ (List.mem_of_getElem? h))
        rw [w] at z; cases z
  have gres : (rs' ++ [tmp n t v F0])[rs'.length]? = some (tmp n t v F0) := getElem?_last
  have gout : ∀ {x : Nat} {q : Root}, rs'[x]? = some q → (rs' ++ [tmp n t v F0])[x]? = some q := fun h => getElem?_app h
  refine ⟨fun a => S a ∨ S' a, rs.mapIdx (newR js U rs'), ⟨?_, ?_, ?_, ?_, ?_, tm_app (fun r h => s.tm r (List.mem_append_left _ h)) ⟨_, _, rfl⟩⟩⟩
  · -- entries
    refine List.ext_getElem? fun i => ?_
    rw [List.getElem?_map, List.getElem?_mapIdx, putL_get]
    unfold killJ
    rw [List.getElem?_map, ← s.e, List.getElem?_map]
    cases q : rs[i]? with
    | none => rfl
    | some r0 =>
      show some (newR js U rs' i r0).e = some _
      rw [Nat.zero_add]
      by_cases hj : i ∈ js
      · obtain ⟨n0, t0, t', v', F', x, e, a1, a2, a3, a4, a5, a6⟩ := o2 i hj
        have hU : U.lookup i = some x := by
          have : U.lookup i = some (0 + x) := a5
          rw [this]; congr 1; omega
        obtain ⟨r1, b1, b2, b3, b4⟩ := s.get a1
        rw [q] at b4
        have b4 := Option.some.inj b4
        subst b4
        unfold newR
        rw [hU, a4]
        simp only [a6]
        have : noRo (slsOf as) r0.e = r0.e := noRo_own _ _ (by rw [b2, a2]; exact fun z => nomatch z)
        rw [this]
        rfl
      · obtain ⟨a1, a2⟩ := o1 i hj
        unfold newR
        rw [show U.lookup i = none from a2, a1]
  · refine List.ext_getElem? fun i => ?_
    rw [List.getElem?_map, List.getElem?_mapIdx, ← s.o, List.getElem?_map]
    cases q : rs[i]? with
    | none => rfl
    | some r0 =>
      show some (newR js U rs' i r0).o = some r0.o
      unfold newR
      split
      · split <;> rfl
      · rfl
  · rw [← List.append_assoc]
    refine ⟨fun m r e => ?_, fun m l r q e1 e2 ne a ha hb => ?_, fun a h => ?_, fun a o h1 h2 => ?_, fun a h => ?_⟩
    · rcases app_old e with ⟨_, rfl⟩ | ⟨_, e⟩
      · obtain ⟨b1, b2, b3⟩ := G'.slot _ _ gres
        refine ⟨?_, b2, fun a ha => ⟨nS2 a (b3 a ha).1 (b3 a ha).2, hw a (b3 a ha).2⟩⟩
        obtain ⟨v', e, own⟩ := b1
        exact ⟨v', e, own.mono fun _ => .inr⟩
      · rcases two e with ⟨x, q, r0, hU, hx, hF, h0, ho, he, n0, t0, t', v', F', rfl, w1, w2⟩ | ⟨q, hq, hj, hl, h1⟩
        · obtain ⟨b1, b2, b3⟩ := G'.slot _ _ (gout hx)
          rw [hF]
          refine ⟨?_, b2, fun a ha => ⟨nS2 a (b3 a ha).1 (b3 a ha).2, hw a (b3 a ha).2⟩⟩
          obtain ⟨v'', e', own⟩ := b1
          have e' := Option.some.inj e'
          subst e'
          rw [he, ho, w2]
          exact slot_put w1 (own.mono fun _ => .inr)
        · rcases h1 with ⟨h1, h2⟩ | ⟨rfl, hr⟩
          · refine ⟨?_, by rw [h2]; exact List.nodup_nil, fun a z => by rw [h2] at z; cases z⟩
            rw [h1]; exact h2
          · obtain ⟨b1, b2, b3⟩ := s.good.slot _ _ hq
            have nf := nonf hq hj hl
            exact ⟨b1.keep (fun _ => .inl) (kp _ nf) (fun t z => absurd z (hr t)), b2, fun a ha => ⟨oldS (fun a ha => ⟨nf a ha, (b3 a ha).1, thereN hq a ha⟩) a ha, (b3 a ha).2⟩⟩
    · -- disjoint
      have D1 : ∀ {x : Nat} {q : Root}, (rs' ++ [tmp n t v F0])[x]? = some q → ∀ a ∈ q.F, H a = none ∨ a ∈ foot rc := fun hx a ha => ((G'.slot _ _ hx).2.2 a ha).2
      have D2 : ∀ {i : Nat} {q : Root}, (rs ++ (τ ++ ms))[i]? = some q → i ∉ js → i < (rs ++ τ).length → ∀ a ∈ q.F, ¬ (H a = none ∨ a ∈ foot rc) := fun hi hj hl a ha z => by
        rcases z with z | z
        · exact thereN hi a ha z
        · exact nonf hi hj hl a ha z
      have cls : ∀ {m : Nat} {r : Root}, (rs.mapIdx (newR js U rs') ++ τ ++ [tmp n t v F0])[m]? = some r → a ∈ r.F →
          (∃ (x : Nat) (q : Root), (rs' ++ [tmp n t v F0])[x]? = some q ∧ a ∈ q.F ∧ ((m = (rs.mapIdx (newR js U rs') ++ τ).length ∧ x = rs'.length) ∨ (U.lookup m = some x ∧ m < (rs.mapIdx (newR js U rs') ++ τ).length ∧ x < rs'.length))) ∨
          (∃ q, (rs ++ (τ ++ ms))[m]? = some q ∧ m ∉ js ∧ m < (rs ++ τ).length ∧ a ∈ q.F) := fun {m r} e ha => by
        rcases app_old e with ⟨e0, rfl⟩ | ⟨e0, e⟩
        · exact .inl ⟨rs'.length, _, gres, ha, .inl ⟨e0, rfl⟩⟩
        · rcases two e with ⟨x, q, r0, hU, hx, hF, _⟩ | ⟨q, hq, hj, hl, h1⟩
          · exact .inl ⟨x, q, gout hx, hF ▸ ha, .inr ⟨hU, e0, (List.getElem?_eq_some_iff.mp hx).1⟩⟩
          · rcases h1 with ⟨_, h2⟩ | ⟨rfl, _⟩
            · rw [h2] at ha; cases ha
            · exact .inr ⟨r, hq, hj, hl, ha⟩
      rcases cls e1 ha with ⟨x, q1, g1, g2, g3⟩ | ⟨q1, g1, g2, g3, g4⟩
      · rcases cls e2 hb with ⟨y, q2, h1, h2, h3⟩ | ⟨q2, h1, h2, h3, h4⟩
        · refine G'.dj x y q1 q2 g1 h1 (fun z => ?_) a g2 h2
          rcases g3 with ⟨g3, g5⟩ | ⟨g3, g5, g6⟩
          · rcases h3 with ⟨h3, h5⟩ | ⟨h3, h5, h6⟩
            · exact ne (g3.trans h3.symm)
            · omega
          · rcases h3 with ⟨h3, h5⟩ | ⟨h3, h5, h6⟩
            · omega
            · subst z
              exact ne (ixs_inj (lookup_mem g3) (lookup_mem h3))
        · exact D2 h1 h2 h3 a h4 (D1 g1 a g2)
      · rcases cls e2 hb with ⟨y, q2, h1, h2, h3⟩ | ⟨q2, h1, h2, h3, h4⟩
        · exact D2 g1 g2 g3 a g4 (D1 h1 a h2)
        · exact s.good.dj _ _ _ _ g1 h1 ne a g4 h4
    · rcases h with h | h
      · intro z
        cases q : H a with
        | none => exact s.good.trk a h q
        | some o =>
          rw [kept a o q (fun w => nonS a w h)] at z; cases z
      · exact G'.trk a h
    · exact kept a o (s.good.fr a o h1 h2) fun w => by
        rcases hw a (.inr w) with z | z
        · rw [z] at h1; cases h1
        · exact h2 z
    · rcases h with h | h
      · exact s.good.src a h
      · rcases G'.src a h with w | w
        · exact s.good.src a w
        · exact .inr (hw a w)
  · intro k' j i u h
    rw [putL_get, Nat.zero_add] at h
    unfold killJ at h
    rw [List.getElem?_map] at h
    cases q : ρ[k']? with
    | none => rw [q] at h; cases h
    | some e0 =>
      rw [q] at h
      have h := Option.some.inj h
      have hk : k' ∉ js := fun z => by
        obtain ⟨n0, t0, t', v', F', x, e, a1, a2, a3, a4, a5, a6⟩ := o2 k' z
        rw [a4] at h
        rw [q] at a1
        have a1 := Option.some.inj a1
        subst a1
        have e1 : noRo (slsOf as) e0 = e0 := noRo_own _ _ (by rw [a2]; exact fun z => nomatch z)
        rw [e1] at h
        have h : e0.put t' = .al j i u := h
        have := put_own a2 t'
        rw [h] at this
        cases this
      rw [(o1 k' hk).1] at h
      have h : noRo js e0 = .al j i u := h
      have hj : j ∉ js ∧ e0 = .al j i u := by
        cases e0 with
        | al a b c =>
          by_cases ha : a ∈ js
          · simp [noRo, ha] at h
          · simp [noRo, ha] at h
            obtain ⟨rfl, rfl, rfl⟩ := h
            exact ⟨ha, rfl⟩
        | no => cases h
        | ow _ _ => cases h
        | io _ _ => cases h
        | ro _ => cases h
      obtain ⟨hj, rfl⟩ := hj
      obtain ⟨r, n', U', w0, w1, Fi, a1, a2, a3, a4, a5, a6, a7⟩ := (s.al k' j i u q).ex
      have hU : U.lookup j = none := (o1 j hj).2
      have g5 : (rs ++ (τ ++ ms))[j]? = some r := getElem?_app a1
      have hlj : j < (rs ++ τ).length := by
        have := (List.getElem?_eq_some_iff.mp a1).1
        rw [List.length_append]; omega
      have nf := nonf g5 hj hlj
      have er : newR js U rs' j r = r := by
        unfold newR
        rw [hU]
        have e1 : noRo js r.e = r.e := noRo_own _ _ (by rw [a2]; exact fun z => nomatch z)
        have e2 : r.e.tr.isSome = true := by cases e3 : r.e <;> rw [e3] at a2 <;> first | rfl | cases a2
        simp only [e1, e2]
        rfl
      refine ⟨⟨r, n', U', w0, w1, Fi, by rw [List.getElem?_mapIdx, a1]; show some (newR js U rs' j r) = some r; rw [er], a2, a3, a4, ?_, ?_, a7⟩⟩
      · obtain ⟨w0', e3, own3⟩ := (s.good.slot _ _ g5).1.own a2
        rw [a3] at e3
        have e3 := Option.some.inj e3
        subst e3
        generalize r.F = G at own3 nf
        cases a5 with
        | lst b1 b2 b3 b4 =>
          cases own3 with
          | lst _ _ => exact .lst (kept _ _ b1 (nf _ List.mem_cons_self)) b2 b3 (by cases b4; exact .nil)
        | tup b1 b2 b3 b4 => exact .tup ((kp [] (fun _ z => nomatch z)).tup _ _ b1) b2 b3 (by cases b4; exact .nil)
      · exact a6.keep (fun _ => .inl) (kp _ fun a ha => nf a (a7 a ha))
  · intro i n' u h
    rw [putL_get, Nat.zero_add] at h
    unfold killJ at h
    rw [List.getElem?_map] at h
    cases q : ρ[i]? with
    | none => rw [q] at h; cases h
    | some e0 =>
      rw [q] at h
      have h := Option.some.inj h
      by_cases hk : i ∈ js
      · obtain ⟨n0, t0, t', v', F', x, e, a1, a2, a3, a4, a5, a6⟩ := o2 i hk
        rw [a4] at h
        rw [q] at a1
        have a1 := Option.some.inj a1
        subst a1
        have e1 : noRo (slsOf as) e0 = e0 := noRo_own _ _ (by rw [a2]; exact fun z => nomatch z)
        rw [e1] at h
        have h : e0.put t' = .io n' u := h
        have e2 := put_io a2 h
        subst e2
        exact s.io i _ _ q
      · rw [(o1 i hk).1] at h
        have h : noRo (slsOf as) e0 = .io n' u := h
        rcases noRo_cases (slsOf as) e0 with z | z
        · rw [z] at h; exact s.io i n' u (by rw [q, h])
        · rw [z] at h; cases h
end
end TL
set_option Elab.async false
set_option linter.all false
set_option maxRecDepth 100000
namespace TL
open PySem PySem.Spec PyProof.Rows L2
section
variable {K : PySem.W.Frag} {f : Fm} {S S' : Addr → Prop} {H H' : Hp} {τ τ' ms rs rs' : List Root} {ρ ρ' : List Ent} {σ : St}
/-- a fresh owned value held -/
theorem StaW.pushF (s : StaW K f τ ρ σ H S rs) (hs : Same H H') {n : Nat} {t : T} {v : V} {F : List Addr} (own : Own K H' S n t v F) (nd : F.Nodup) (hF : ∀ a ∈ F, H a = none) : StaW K f (τ ++ [tmp n t v F]) ρ σ H' S rs := by
  have s' := s.same hs
  refine ⟨s.e, s.o, ?_, s'.al, s.io, tm_app s.tm ⟨_, _, rfl⟩⟩
  rw [← List.append_assoc]
  have nw : ∀ {m : Nat} {r : Root} {a : Addr}, (rs ++ τ)[m]? = some r → a ∈ F → a ∉ r.F := fun e ha hm => by
    obtain ⟨vs, q⟩ := s.good.own_there e hm
    rw [hF _ ha] at q; cases q
  exact {
    slot := fun m r e => by
      rcases app_old e with ⟨_, rfl⟩ | ⟨_, e⟩
      · exact ⟨⟨v, rfl, own⟩, nd, fun a z => ⟨fun y => s.good.trk a y (hF a z), s.good.none_src (hF a z)⟩⟩
      · exact s'.good.slot m r e
    dj := fun m l r q e1 e2 ne a ha hb => by
      rcases app_old e1 with ⟨d1, rfl⟩ | ⟨_, g1⟩
      · rcases app_old e2 with ⟨d2, rfl⟩ | ⟨_, g2⟩
        · exact ne (d1.trans d2.symm)
        · exact nw g2 ha hb
      · rcases app_old e2 with ⟨_, rfl⟩ | ⟨_, g2⟩
        · exact nw g1 hb ha
        · exact s.good.dj m l r q g1 g2 ne a ha hb
    trk := s'.good.trk
    fr := s'.good.fr
    src := s.good.src }
end
section
variable {X : Cx} {e a b c : Expr} {es : List Expr} {pos p p2 : Pos} {w wa wb : List Ent → (T → Prop) → Prop} {wA : List Ent → (List T → Prop) → Prop} {v va vb : List Ent → (Nat → T → List Ent → Prop) → Prop}
/-! ### calls held -/
structure TCA (X : Cx) (as : List AR) (es : List Expr) (w : List Ent → (List T → List Ent → Prop) → Prop) : Prop where
  ok : ∃ tt : TA, PA X es tt ∧ ∀ (f : Fm) (τ : List Root) (ρ : List Ent) (σ : St) (H : Hp) (Q : List V → Hp → Prop) (R : List T → List Ent → Prop), Sta X.K f τ ρ σ H → w ρ R → (∀ ts ρ' vs ms H', R ts ρ' → Cms σ as ts vs ms → Sta X.K f (τ ++ ms) ρ' σ H' → Q vs H') → tt σ H Q
variable {as : List AR} {vC : List Ent → (List T → List Ent → Prop) → Prop}
theorem tca_nil : TCA X [] [] (vaNil) := ⟨⟨_, pa_nil, fun f τ ρ σ H Q R hs hw hq => hq [] ρ [] [] H hw .nil (by rw [List.append_nil]; exact hs)⟩⟩
theorem tca_tv (k : Nat) (ha : TVE X e v) (hr : TCA X as es vC) (hs : starEach (e :: es) X.env = (false, eval e X.env) :: starEach es X.env := by rfl) :
    TCA X (.tv k :: as) (e :: es) (vaCons k v vC) := by
  obtain ⟨ta, pa, ka⟩ := ha.ok
  obtain ⟨tb, pb, kb⟩ := hr.ok
  refine ⟨⟨_, pa_cons pa pb hs, fun f τ ρ σ H Q R hs hw hq => ?_⟩⟩
  refine ka f τ ρ σ H _ _ hs hw fun n t ρ' v F H1 h1 s1 => ?_
  obtain ⟨S, rs, s⟩ := s1
  obtain ⟨F', S', _, s'⟩ := s.fitV h1.1
  refine kb f (τ ++ [tmp k t v F']) ρ' σ H1 _ _ ⟨S', rs, s'⟩ h1.2 fun ts ρ'' vs ms H2 h2 hm s2 => ?_
  refine hq (t :: ts) ρ'' (v :: vs) (tmp k t v F' :: ms) H2 h2 (.tv hm) ?_
  have e : τ ++ [tmp k t v F'] ++ ms = τ ++ tmp k t v F' :: ms := by simp
  rw [← e]
  exact s2
def cSl (j : Nat) (vC : List Ent → (List T → List Ent → Prop) → Prop) : List Ent → (List T → List Ent → Prop) → Prop := fun ρ R => (ρ[j]?.bind Ent.own).isSome = true ∧ vC ρ fun ts ρ'' => R (.non :: ts) ρ''
theorem tca_sl (j : Nat) {x : Str} (hr : TCA X as es vC) (hN : X.N[j]? = some x := by rfl) (hv : Vis X.env.scope x := by first | exact Or.inl rfl | exact Or.inr (Or.inl rfl) | exact Or.inr (Or.inr rfl)) (hd : (x == ("__debug__" : Str)) = false := by decide)
    (hcd : (x == ("__classdict__" : Str)) = false := by decide) (hs : starEach (.Name x pos :: es) X.env = (false, eval (.Name x pos) X.env) :: starEach es X.env := by rfl) :
    TCA X (.sl j :: as) (.Name x pos :: es) (cSl j vC) := by
  obtain ⟨tb, pb, kb⟩ := hr.ok
  refine ⟨⟨_, pa_cons (pe_var hN hv hd hcd) pb hs, fun f τ ρ σ H Q R hs hw hq => ?_⟩⟩
  obtain ⟨h1, h2⟩ := hw
  have hv : ∃ v, σ[j]? = some (some v) := by
    obtain ⟨S, rs, s⟩ := hs
    cases q : ρ[j]? with
    | none => rw [q] at h1; cases h1
    | some e0 =>
      rw [q] at h1
      cases q2 : e0.own with
      | none =>
        have h1 : e0.own.isSome = true := h1
        rw [q2] at h1; cases h1
      | some nt =>
        obtain ⟨n, t⟩ := nt
        obtain ⟨r, g1, g2, g3, g4⟩ := s.get q
        obtain ⟨v, ev, _⟩ := (s.good.slot _ _ g1).1.own (n := n) (t := t) (by rw [g2]; exact q2)
        exact ⟨v, by rw [g3, ev]⟩
  obtain ⟨v, hv⟩ := hv
  refine ⟨v, hv, kb f τ ρ σ H _ _ hs h2 fun ts ρ'' vs ms H2 h3 hm s2 => ?_⟩
  exact hq (.non :: ts) ρ'' (v :: vs) ms H2 h3 (.sl hv hm) s2
-- a continuation that simp is to leave alone
def KDep (R : Nat → T → List Ent → Prop) : Type := Unit
def callAt (ps : List Par) (as : List AR) (W : FnT) (R : Nat → T → List Ent → Prop) (_ : KDep R) (ts : List T) (ρ' : List Ent) : Prop := match inT ρ' ps as ts with
  | some us => W us fun n t outs => R n t (putL (ups ps as outs) 0 (killJ (slsOf as) ρ'))
  | none => False
def wCallV (ps : List Par) (as : List AR) (W : FnT) (vC : List Ent → (List T → List Ent → Prop) → Prop) : List Ent → (Nat → T → List Ent → Prop) → Prop := fun ρ R => vC ρ (callAt ps as W R ())
theorem tv_call {x : Str} {fa : Addr} {fd : FuncData} {qs : List Str} {k : Nat} {ps : List Par} {W : FnT} (F : FnOk X.prog X.w X.K X.mg X.base CX0 k fa fd qs (spT X.K ps W)) (hr : Room k X.A) (hg : Gl X x) (hm : X.mg x = some (.ref fa)) (hk : PySem.W.keepIn X.K (.ref fa) = true) (hb : Binds X.K fd qs [])
    (ha : TCA X as (e :: es) vC) (hnd : (slsOf as).Nodup := by decide) (hdb : (x == ("__debug__" : Str)) = false := by decide) (he : starEach (e :: es) X.env = (false, eval e X.env) :: starEach es X.env := by rfl) (hpl : (backTo pos (starEach es X.env)).any (·.1) = false := by rfl) :
    TVE X (.Call (.Name x p) (e :: es) [] pos) (wCallV ps as W vC) := by
  obtain ⟨ta, pa, ka⟩ := ha.ok
  refine ⟨⟨_, pe_call F hr hg hm hk hb .nil pass0 pa hdb he hpl, fun f τ ρ σ H Q R hs hw hq => ?_⟩⟩
  refine ka f τ ρ σ H _ _ hs hw fun ts ρ' vs ms H1 h1 hm s1 => ?_
  rw [List.append_nil]
  obtain ⟨S, rs, s⟩ := s1
  have h1 : (match inT ρ' ps as ts with
    | some us => W us fun n t outs => R n t (putL (ups ps as outs) 0 (killJ (slsOf as) ρ'))
    | none => False) := h1
  cases q : inT ρ' ps as ts with
  | none => rw [q] at h1; exact h1.elim
  | some us =>
    rw [q] at h1
    exact call_core s hm q hnd h1 fun n t outs v F H' hR hs' => hq n t _ v F H' hR hs'
def vCallN (m : Nat) (W : FnT) (wA : List Ent → (List T → Prop) → Prop) : List Ent → (Nat → T → List Ent → Prop) → Prop := fun ρ R => wA ρ fun ts => ts.length = m ∧ W ts fun n t _ => t.flatAt n = true ∧ R n t ρ
/-- a call that only reads; what it hands back is new, as deep as it is owned -/
theorem tv_callN {x : Str} {fa : Addr} {fd : FuncData} {qs : List Str} {k m : Nat} {W : FnT} (F : FnOk X.prog X.w X.K X.mg X.base CX0 k fa fd qs (spT X.K (allSh m) W)) (hr : Room k X.A) (hg : Gl X x) (hm : X.mg x = some (.ref fa)) (hk : PySem.W.keepIn X.K (.ref fa) = true) (hb : Binds X.K fd qs [])
    (ha : TPA X (e :: es) wA) (hdb : (x == ("__debug__" : Str)) = false := by decide) (he : starEach (e :: es) X.env = (false, eval e X.env) :: starEach es X.env := by rfl) (hpl : (backTo pos (starEach es X.env)).any (·.1) = false := by rfl) :
    TVE X (.Call (.Name x p) (e :: es) [] pos) (vCallN m W wA) := by
  obtain ⟨ta, pa, ka⟩ := ha.ok
  refine ⟨⟨_, pe_call F hr hg hm hk hb .nil pass0 pa hdb he hpl, fun f τ ρ σ H Q R hs hw hq => ?_⟩⟩
  refine ka _ ρ σ H _ _ hs.rdAll hw fun ts vs H1 h1 s1 x1 => ?_
  rw [List.append_nil]
  obtain ⟨S, rs, s⟩ := hs.same s1
  refine spT_pure x1 h1.1.symm h1.2 fun n t v H2 S' F0 h2 s2 own hS hF nd hd => ?_
  exact hq n t ρ v F0 H2 h2.2 ⟨S, rs, s.pushF s2 (own.anyS h2.1 S) nd hF⟩
/-! ### operators on held values -/
theorem Sta.last2 {K : PySem.W.Frag} {f : Fm} {τ : List Root} {ρ : List Ent} {σ : St} {H : Hp} {n : Nat} {t : T} {v : V} {F : List Addr} (s : Sta K f (τ ++ [tmp n t v F]) ρ σ H) : Shr K H (fun _ => True) t v := by
  obtain ⟨S, rs, s⟩ := s
  have g : (rs ++ (τ ++ [tmp n t v F]))[(rs ++ τ).length]? = some (tmp n t v F) := by rw [← List.append_assoc]; exact getElem?_last
  obtain ⟨v', e, own⟩ := (s.good.slot _ _ g).1
  have e := Option.some.inj e
  subst e
  exact own.shr (fun _ _ => trivial) (fun _ _ => trivial)
def v2 (g : F2) (va vb : List Ent → (Nat → T → List Ent → Prop) → Prop) : List Ent → (Nat → T → List Ent → Prop) → Prop := fun ρ R => va ρ fun _ x ρ1 => vb ρ1 fun _ y ρ2 => g x y fun z => z.flat = true ∧ R 0 z ρ2
theorem vtwo {ta tb : TE} (ka : ∀ (f : Fm) (τ : List Root) (ρ : List Ent) (σ : St) (H : Hp) (Q : VK) (R : Nat → T → List Ent → Prop), Sta X.K f τ ρ σ H → va ρ R → (∀ n t ρ' v F H', R n t ρ' → Sta X.K f (τ ++ [tmp n t v F]) ρ' σ H' → Q v H') → ta σ H Q)
    (kb : ∀ (f : Fm) (τ : List Root) (ρ : List Ent) (σ : St) (H : Hp) (Q : VK) (R : Nat → T → List Ent → Prop), Sta X.K f τ ρ σ H → vb ρ R → (∀ n t ρ' v F H', R n t ρ' → Sta X.K f (τ ++ [tmp n t v F]) ρ' σ H' → Q v H') → tb σ H Q)
    {r : R2} {g : F2} (hg : OpT X.K r g) {f : Fm} {τ : List Root} {ρ : List Ent} {σ : St} {H : Hp} {Q : VK} {R : Nat → T → List Ent → Prop} (hs : Sta X.K f τ ρ σ H) (hw : v2 g va vb ρ R) (hq : ∀ n t ρ' v F H', R n t ρ' → Sta X.K f (τ ++ [tmp n t v F]) ρ' σ H' → Q v H') : tOp r ta tb σ H Q := by
  refine ka f τ ρ σ H _ _ hs hw fun n t ρ1 v1 F1 H1 h1 s1 => ?_
  refine kb f (τ ++ [tmp n t v1 F1]) ρ1 σ H1 _ _ s1 h1 fun n2 u ρ2 v3 F2 H2 h2 s2 => ?_
  refine hg _ H2 v1 v3 t u Q _ s2.pop.last2 s2.last2 h2 fun z v4 H3 h3 s3 x3 => ?_
  obtain ⟨S, rs, s⟩ := s2.pop.pop.same s3
  exact hq 0 z ρ2 v4 [] H3 h3.2 ⟨S, rs, s.pushS ((x3.flat0 h3.1).2 0 S)⟩
theorem tv_op {op : Operator} {r : R2} {g : F2} (ho : OpR X (binaryOp op) r) (hg : OpT X.K r g) (ha : TVE X a va) (hb : TVE X b vb) : TVE X (.BinOp a op b pos) (v2 g va vb) := by
  obtain ⟨ta, pa, ka⟩ := ha.ok
  obtain ⟨tb, pb, kb⟩ := hb.ok
  exact ⟨⟨_, pe_op ho pa pb, fun f τ ρ σ H Q R hs hw hq => vtwo ka kb hg hs hw hq⟩⟩
theorem tv_cmp {op : CmpOp} {r : R2} {g : F2} (ho : OpR X (compareOp op) r) (hg : OpT X.K r g) (ha : TVE X a va) (hb : TVE X b vb) (hm : behindInMarks op b = false) : TVE X (.Compare a [op] [b] pos) (v2 g va vb) := by
  obtain ⟨ta, pa, ka⟩ := ha.ok
  obtain ⟨tb, pb, kb⟩ := hb.ok
  exact ⟨⟨_, pe_cmpR ho pa pb hm, fun f τ ρ σ H Q R hs hw hq => vtwo ka kb hg hs hw hq⟩⟩
def v1 (g : F1) (va : List Ent → (Nat → T → List Ent → Prop) → Prop) : List Ent → (Nat → T → List Ent → Prop) → Prop := fun ρ R => va ρ fun _ x ρ1 => g x fun z => z.flat = true ∧ R 0 z ρ1
theorem tv_un {op : UnaryOp} {r : V → Hp → VK → Prop} {g : F1} (ho : UnR X (unaryOp op) r) (hg : UnT X.K r g) (ha : TVE X a va) : TVE X (.UnaryOp op a pos) (v1 g va) := by
  obtain ⟨ta, pa, ka⟩ := ha.ok
  refine ⟨⟨_, pe_un ho pa, fun f τ ρ σ H Q R hs hw hq => ?_⟩⟩
  refine ka f τ ρ σ H _ _ hs hw fun n t ρ1 v1 F1 H1 h1 s1 => ?_
  refine hg _ H1 v1 t Q _ s1.last2 h1 fun z v4 H3 h3 s3 x3 => ?_
  obtain ⟨S, rs, s⟩ := s1.pop.same s3
  exact hq 0 z ρ1 v4 [] H3 h3.2 ⟨S, rs, s.pushS ((x3.flat0 h3.1).2 0 S)⟩
/-- a built-in call on held values -/
theorem tms_shrs {K : PySem.W.Frag} {S : Addr → Prop} {H : Hp} {rs : List Root} (G : ∀ (i : Nat) r, rs[i]? = some r → SlotR K H S r.e r.o r.F) : ∀ {ks : List Nat} {ts : List T} {vs : List V} {ms : List Root}, Tms ks ts vs ms → (∀ r ∈ ms, ∃ i : Nat, rs[i]? = some r) → Shrs K H (fun _ => True) ts vs
  | _, _, _, _, .nil, _ => .nil
  | _, _, _, _, .cons h, hm => by
    obtain ⟨i, hi⟩ := hm _ List.mem_cons_self
    obtain ⟨v', e, own⟩ := G i _ hi
    have e := Option.some.inj e
    subst e
    exact Shrs.cons (own.shr (fun _ _ => trivial) (fun _ _ => trivial)) (tms_shrs G h fun r hr => hm r (List.mem_cons_of_mem _ hr))
theorem Sta.shrs {K : PySem.W.Frag} {f : Fm} {τ ms : List Root} {ρ : List Ent} {σ : St} {H : Hp} {ks : List Nat} {ts : List T} {vs : List V} (s : Sta K f (τ ++ ms) ρ σ H) (hm : Tms ks ts vs ms) : Shrs K H (fun _ => True) ts vs := by
  obtain ⟨S, rs, s⟩ := s
  refine tms_shrs (rs := rs ++ (τ ++ ms)) (fun i r e => (s.good.slot i r e).1) hm fun r hr => ?_
  exact List.mem_iff_getElem?.mp (List.mem_append_right _ (List.mem_append_right _ hr))
variable {ks : List Nat} {vA : List Ent → (List T → List Ent → Prop) → Prop}
def vCa (g : List T → (T → Prop) → Prop) (vA : List Ent → (List T → List Ent → Prop) → Prop) : List Ent → (Nat → T → List Ent → Prop) → Prop := fun ρ R => vA ρ fun ts ρ' => g ts fun z => z.flat = true ∧ R 0 z ρ'
theorem tv_callTy {x : Str} {id : String} {r : List V → Hp → VK → Prop} {g : List T → (T → Prop) → Prop} (hc : CallR X (.type id) r) (hgv : CaT X.K r g) (hg : Gl X x) (hm : X.mg x = none) (hv : bootBuiltins x = some (.type id)) (ha : TVA X ks (e :: es) vA) (hn : x ≠ "__name__" := by decide) (hdb : (x == ("__debug__" : Str)) = false := by decide)
    (he : starEach (e :: es) X.env = (false, eval e X.env) :: starEach es X.env := by rfl) (hpl : (backTo pos (starEach es X.env)).any (·.1) = false := by rfl) : TVE X (.Call (.Name x p) (e :: es) [] pos) (vCa g vA) := by
  obtain ⟨ta, pa, ka⟩ := ha.ok
  refine ⟨⟨_, pe_callTy hc hg hm hv pa hn hdb he hpl, fun f τ ρ σ H Q R hs hw hq => ?_⟩⟩
  refine ka f τ ρ σ H _ _ hs hw fun ts ρ' vs ms H1 h1 hm s1 => ?_
  refine hgv _ H1 vs ts Q _ (s1.shrs hm) h1 fun z v4 H3 h3 s3 x3 => ?_
  obtain ⟨S, rs, s⟩ := s1.pop.same s3
  exact hq 0 z ρ' v4 [] H3 h3.2 ⟨S, rs, s.pushS ((x3.flat0 h3.1).2 0 S)⟩
theorem tv_callB {x : Str} {id : String} {r : List V → Hp → VK → Prop} {g : List T → (T → Prop) → Prop} (hc : CallR X (.builtin id) r) (hgv : CaT X.K r g) (hg : Gl X x) (hm : X.mg x = none) (hv : bootBuiltins x = some (.builtin id)) (ha : TVA X ks (e :: es) vA) (hn : x ≠ "__name__" := by decide) (hdb : (x == ("__debug__" : Str)) = false := by decide)
    (he : starEach (e :: es) X.env = (false, eval e X.env) :: starEach es X.env := by rfl) (hpl : (backTo pos (starEach es X.env)).any (·.1) = false := by rfl) : TVE X (.Call (.Name x p) (e :: es) [] pos) (vCa g vA) := by
  obtain ⟨ta, pa, ka⟩ := ha.ok
  refine ⟨⟨_, pe_callB hc hg hm hv pa hn hdb he hpl, fun f τ ρ σ H Q R hs hw hq => ?_⟩⟩
  refine ka f τ ρ σ H _ _ hs hw fun ts ρ' vs ms H1 h1 hm s1 => ?_
  refine hgv _ H1 vs ts Q _ (s1.shrs hm) h1 fun z v4 H3 h3 s3 x3 => ?_
  obtain ⟨S, rs, s⟩ := s1.pop.same s3
  exact hq 0 z ρ' v4 [] H3 h3.2 ⟨S, rs, s.pushS ((x3.flat0 h3.1).2 0 S)⟩
/-- an item of a held list: the item alone is kept -/
def vIx (va vb : List Ent → (Nat → T → List Ent → Prop) → Prop) : List Ent → (Nat → T → List Ent → Prop) → Prop := fun ρ R => va ρ fun n x ρ1 => vb ρ1 fun _ y ρ2 => match x, y with
    | .lst ts, .int i => match atI ts i with
      | some z => R (n - 1) z ρ2
      | none => False
    | .tup ts, .int i => match atI ts i with
      | some z => z.flat = true ∧ R 0 z ρ2
      | none => False
    | _, _ => False
theorem tv_ix (ha : TVE X a va) (hb : TVE X b vb) (hs : PlainIx b) : TVE X (.Subscript a b pos) (vIx va vb) := by
  obtain ⟨ta, pa, ka⟩ := ha.ok
  obtain ⟨tb, pb, kb⟩ := hb.ok
  refine ⟨⟨_, pe_ix ix_seq pa pb hs, fun f τ ρ σ H Q R hs hw hq => ?_⟩⟩
  refine ka f τ ρ σ H _ _ hs hw fun n t ρ1 v1 F1 H1 h1 s1 => ?_
  refine kb f (τ ++ [tmp n t v1 F1]) ρ1 σ H1 _ _ s1 h1 fun n2 u ρ2 v3 F2 H2 h2 s2 => ?_
  cases t with
  | lst ts =>
    cases u with
    | int i =>
      have eu := shr_int s2.last2
      subst eu
      have s3 := s2.pop
      obtain ⟨S, rs, s⟩ := s3
      have gt : (rs ++ (τ ++ [tmp n (.lst ts) v1 F1]))[(rs ++ τ).length]? = some (tmp n (.lst ts) v1 F1) := by rw [← List.append_assoc]; exact getElem?_last
      obtain ⟨⟨v', e, own⟩, nd, q⟩ := s.good.slot _ _ gt
      have e := Option.some.inj e
      subst e
      simp only at h2
      split at h2
      · rename_i z hz
        have : ∃ (vs : List V) (p : Addr), v1 = .ref p ∧ SqL X.K H2 p vs ∧ ∃ vz Fz, atI vs i = some vz ∧ Own X.K H2 S (n - 1) z vz Fz ∧ (∀ b ∈ Fz, b ∈ F1) ∧ Fz.Nodup := by
          cases own with
          | @sls a vs ts q1 r =>
            obtain ⟨vz, e1, e2⟩ := shrs_at r hz
            exact ⟨vs, _, rfl, q1.sq, vz, [], e1, e2, (fun _ z => nomatch z), List.nodup_nil⟩
          | @lst n a vs ts F q1 r =>
            unfold atI at hz
            cases q2 : ixN ts.length i with
            | none => rw [q2] at hz; cases hz
            | some j =>
              rw [q2] at hz
              have hz : ts[j]? = some z := hz
              obtain ⟨vz, hvz⟩ := r.get hz
              obtain ⟨G1, Fi, G2, rfl, o, _⟩ := r.split hz hvz
              refine ⟨vs, a, rfl, SqL.of q1, vz, Fi, ?_, o, fun b hb => by simp [hb], ?_⟩
              · unfold atI
                rw [← r.length, q2]; exact hvz
              · exact (List.nodup_append.mp (List.nodup_append.mp (List.nodup_cons.mp nd).2).1).2.1
        obtain ⟨vs, p, rfl, hsq, vz, Fz, e1, o, hsub, ndz⟩ := this
        refine .inl ⟨p, vs, i, vz, rfl, rfl, hsq, e1, ?_⟩
        refine hq (n - 1) z ρ2 vz Fz H2 h2 ⟨S, rs, ⟨s.e, s.o, ?_, s.al, s.io, tm_app (fun r h => s.tm r (List.mem_append_left _ h)) ⟨_, _, rfl⟩⟩⟩
        rw [← List.append_assoc]
        have kr : ∀ G, Kp H2 H2 S G := fun _ => kp_refl
        refine s.good.repl (fun m => m) (rs ++ τ).length (r' := tmp (n - 1) z vz Fz) getElem?_last (fun m' q' hm h => ?_) (fun _ _ _ _ _ _ _ _ _ _ z => z) ⟨vz, rfl, o⟩ ndz (fun b hb => q b (hsub b hb))
          (fun b hb m' q' hm _ h => s.good.dj _ _ _ _ gt h (Ne.symm hm) b (hsub b hb)) (fun _ z => z) (fun m' q' hm _ h b hb => ((s.good.slot _ _ h).2.2 b hb).1) (fun m' q' hm _ _ => ⟨kr _, fun _ _ => kp_refl⟩) s.good.trk s.good.fr s.good.src
        right
        rcases app_old h with ⟨e1, _⟩ | ⟨_, e1⟩
        · exact absurd e1 hm
        · rw [← List.append_assoc]; exact getElem?_app e1
      · exact h2.elim
    | _ => exact h2.elim
  | tup ts =>
    cases u with
    | int i =>
      have eu := shr_int s2.last2
      subst eu
      have x1 := s2.pop.last2
      obtain ⟨p, vs, rfl, q, r⟩ := shr_tup x1
      simp only at h2
      split at h2
      · rename_i z hz
        obtain ⟨vz, e1, e2⟩ := shrs_at r hz
        refine .inr (.inl ⟨p, vs, i, vz, rfl, rfl, q, e1, ?_⟩)
        obtain ⟨S, rs, s⟩ := s2.pop.pop
        exact hq 0 z ρ2 vz [] H2 h2.2 ⟨S, rs, s.pushS ((e2.flat0 h2.1).2 0 S)⟩
      · exact h2.elim
    | _ => exact h2.elim
  | _ => exact h2.elim
end
end TL
set_option Elab.async false
set_option linter.all false
set_option maxRecDepth 100000
namespace TL
open PySem PySem.Spec PyProof.Rows L2
section
variable {X : Cx} {e a b c : Expr} {es rest : List Expr} {pos p p2 pos' : Pos} {w wa wb : List Ent → (T → Prop) → Prop} {v va vb : List Ent → (Nat → T → List Ent → Prop) → Prop} {wt : List Ent → (Bool → Prop) → Prop} {vt vt2 : List Ent → (Bool → List Ent → Prop) → Prop}
/-! ### tests -/
def tP (wt : List Ent → (Bool → Prop) → Prop) : List Ent → (Bool → List Ent → Prop) → Prop := fun ρ R => wt ρ fun b => R b ρ
theorem tvt_p (h : TPT X e wt) : TVT X e (tP wt) := by
  obtain ⟨ta, pa, ka⟩ := h.ok
  refine ⟨⟨ta, pa, fun f τ ρ σ H Q R hs hw hq => ?_⟩⟩
  exact ka _ ρ σ H _ _ hs.rdAll hw fun b H1 h1 s1 => hq b ρ H1 h1 (hs.same s1)
def vT (v : List Ent → (Nat → T → List Ent → Prop) → Prop) : List Ent → (Bool → List Ent → Prop) → Prop := fun ρ R => v ρ fun _ t ρ' => asB t fun b => R b ρ'
theorem tvt_val (ha : TVE X a va) (he : ∀ whole, isTrue a X.env whole = (do let v ← whole; standAt a.pos; holding [v] (truthy v)) := by intro _; rfl) : TVT X a (vT va) := by
  obtain ⟨ta, pa, ka⟩ := ha.ok
  refine ⟨⟨_, pt_val pa he, fun f τ ρ σ H Q R hs hw hq => ka f τ ρ σ H _ _ hs hw fun n t ρ1 v1 F1 H1 h1 s1 => ?_⟩⟩
  obtain ⟨k, e, h⟩ := asB_ok s1.last2 h1
  exact ⟨k, e, hq k ρ1 H1 h s1.pop⟩
theorem tvt_cmp {op : CmpOp} {r : R2} {g : F2} (ho : OpR X (compareOp op) r) (hg : OpT X.K r g) (ha : TVE X a va) (hb : TVE X b vb) (hm : behindInMarks op b = false) : TVT X (.Compare a [op] [b] pos) (vT (v2 g va vb)) := by
  obtain ⟨ta, pa, ka⟩ := ha.ok
  obtain ⟨tb, pb, kb⟩ := hb.ok
  refine ⟨⟨_, pt_cmpR ho pa pb hm, fun f τ ρ σ H Q R hs hw hq => vtwo (va := va) (vb := vb) ka kb hg hs (R := fun _ t ρ' => asB t fun b => R b ρ') hw fun n t ρ1 v1 F1 H1 h1 s1 => ?_⟩⟩
  obtain ⟨k, e, h⟩ := asB_ok s1.last2 h1
  exact ⟨k, e, hq k ρ1 H1 h s1.pop⟩
def vAnd (w1 w2 : List Ent → (Bool → List Ent → Prop) → Prop) : List Ent → (Bool → List Ent → Prop) → Prop := fun ρ R => w1 ρ fun b ρ1 => if b = true then w2 ρ1 R else R false ρ1
def vOr (w1 w2 : List Ent → (Bool → List Ent → Prop) → Prop) : List Ent → (Bool → List Ent → Prop) → Prop := fun ρ R => w1 ρ fun b ρ1 => if b = true then R true ρ1 else w2 ρ1 R
def vNot (w1 : List Ent → (Bool → List Ent → Prop) → Prop) : List Ent → (Bool → List Ent → Prop) → Prop := fun ρ R => w1 ρ fun b ρ1 => R (!b) ρ1
theorem TVW.pt (h : TVW X e vt) : TVT X e vt := by
  obtain ⟨ta, pa, ka⟩ := h.ok
  exact ⟨⟨_, pa.pt, ka⟩⟩
theorem tvw_and1 (ha : TVT X a vt) : TVW X (.BoolOp .And [a] pos) vt := by
  obtain ⟨ta, pa, ka⟩ := ha.ok
  exact ⟨⟨_, pw_and1 pa, ka⟩⟩
theorem tvw_or1 (ha : TVT X a vt) : TVW X (.BoolOp .Or [a] pos) vt := by
  obtain ⟨ta, pa, ka⟩ := ha.ok
  exact ⟨⟨_, pw_or1 pa, ka⟩⟩
theorem tvw_and (ha : TVT X a vt) (hb : TVW X (.BoolOp .And (b :: rest) pos) vt2) : TVW X (.BoolOp .And (a :: b :: rest) pos) (vAnd vt vt2) := by
  obtain ⟨ta, pa, ka⟩ := ha.ok
  obtain ⟨tb, pb, kb⟩ := hb.ok
  refine ⟨⟨_, pw_and pa pb, fun f τ ρ σ H Q R hs hw hq => ?_⟩⟩
  refine ka f τ ρ σ H _ _ hs hw fun k ρ1 H1 h1 s1 => ?_
  cases k with
  | true => exact kb f τ ρ1 σ H1 _ _ s1 h1 hq
  | false => exact hq false ρ1 H1 h1 s1
theorem tvw_or (ha : TVT X a vt) (hb : TVW X (.BoolOp .Or (b :: rest) pos) vt2) : TVW X (.BoolOp .Or (a :: b :: rest) pos) (vOr vt vt2) := by
  obtain ⟨ta, pa, ka⟩ := ha.ok
  obtain ⟨tb, pb, kb⟩ := hb.ok
  refine ⟨⟨_, pw_or pa pb, fun f τ ρ σ H Q R hs hw hq => ?_⟩⟩
  refine ka f τ ρ σ H _ _ hs hw fun k ρ1 H1 h1 s1 => ?_
  cases k with
  | true => exact hq true ρ1 H1 h1 s1
  | false => exact kb f τ ρ1 σ H1 _ _ s1 h1 hq
theorem tvt_not (ha : TVT X a vt) : TVT X (.UnaryOp .Not a pos) (vNot vt) := by
  obtain ⟨ta, pa, ka⟩ := ha.ok
  refine ⟨⟨_, pt_not pa, fun f τ ρ σ H Q R hs hw hq => ?_⟩⟩
  exact ka f τ ρ σ H _ _ hs hw fun k ρ1 H1 h1 s1 => hq (!k) ρ1 H1 h1 s1
def vIf (vt : List Ent → (Bool → List Ent → Prop) → Prop) (va vb : List Ent → (Nat → T → List Ent → Prop) → Prop) : List Ent → (Nat → T → List Ent → Prop) → Prop := fun ρ R => vt ρ fun k ρ1 => if k = true then va ρ1 R else vb ρ1 R
theorem tv_if (hc : TVT X c vt) (ha : TVE X a va) (hb : TVE X b vb) : TVE X (.IfExp c a b pos) (vIf vt va vb) := by
  obtain ⟨tc, pc, kc⟩ := hc.ok
  obtain ⟨ta, pa, ka⟩ := ha.ok
  obtain ⟨tb, pb, kb⟩ := hb.ok
  refine ⟨⟨_, pe_ifExp pc pa pb, fun f τ ρ σ H Q R hs hw hq => ?_⟩⟩
  refine kc f τ ρ σ H _ _ hs hw fun k ρ1 H1 h1 s1 => ?_
  cases k with
  | true => exact ka f τ ρ1 σ H1 _ _ s1 h1 hq
  | false => exact kb f τ ρ1 σ H1 _ _ s1 h1 hq
end
/-! ### statements -/
section
variable {X : Cx} {e a b c : Expr} {st : Stmt} {sts ss bs : List Stmt} {pos p p2 pos' : Pos} {w wa wb : List Ent → (T → Prop) → Prop} {v va vb : List Ent → (Nat → T → List Ent → Prop) → Prop} {vt : List Ent → (Bool → List Ent → Prop) → Prop} {u u1 u2 : TEnds → List Ent → Prop}
def uNext : TEnds → List Ent → Prop := fun De ρ => De.nx ρ
def uSeq (u1 u2 : TEnds → List Ent → Prop) : TEnds → List Ent → Prop := fun De ρ => u1 { De with nx := u2 De } ρ
theorem ts_nil : TSs X [] uNext := ⟨⟨_, pss_nil, fun f τ ρ σ H De D hs hl hw => hl.nx ρ σ H hw hs⟩⟩
theorem ts_cons (h1 : TS1 X st u1) (h2 : TSs X sts u2) : TSs X (st :: sts) (uSeq u1 u2) := by
  obtain ⟨t1, p1, k1⟩ := h1.ok
  obtain ⟨t2, p2, k2⟩ := h2.ok
  refine ⟨⟨_, pss_cons p1 p2, fun f τ ρ σ H De D hs hl hw => ?_⟩⟩
  exact k1 f τ ρ σ H { De with nx := u2 De } _ hs ⟨fun ρ σ H h s => k2 f τ ρ σ H De D s hl h, hl.rt, hl.bk, hl.ct⟩ hw
theorem ts_one (h1 : TS1 X st u1) : TSs X [st] u1 := by
  obtain ⟨t1, p1, k1⟩ := h1.ok
  exact ⟨⟨_, pss_one p1, k1⟩⟩
/-- a slot's list is from now on only read -/
def demE (js : List Nat) (ρ : List Ent) : List Ent := js.foldl (fun (ρ : List Ent) (j : Nat) => match ρ[j]? with
  | some (Ent.ow _ t) => setE ρ j (Ent.ow 0 t)
  | _ => ρ) ρ
theorem Sta.dem1 {K : PySem.W.Frag} {f : Fm} {τ : List Root} {ρ : List Ent} {σ : St} {H : Hp} (s : Sta K f τ ρ σ H) {j n : Nat} {t : T} (he : ρ[j]? = some (.ow n t)) : Sta K f τ (setE ρ j (.ow 0 t)) σ H := by
  obtain ⟨S, rs, s⟩ := s
  obtain ⟨v, F, rs', h1, s'⟩ := s.moveV he
  obtain ⟨F', S', _, s''⟩ := s'.fitV (k := 0) (.inl (Nat.zero_le _))
  have hj : j < (setE ρ j .no).length := by unfold setE killA; simp; exact (List.getElem?_eq_some_iff.mp he).1
  have z := s''.setV (i := j) hj
  have e1 : setE (setE ρ j .no) j (.ow 0 t) = setE ρ j (.ow 0 t) := by
    unfold setE killA
    rw [List.map_set, List.map_map, List.set_set]
    congr 1
    refine List.map_congr_left fun x _ => ?_
    show noAl j (noAl j x) = noAl j x
    rcases noAl_cases j x with h | ⟨k, t, h, h2⟩
    · rw [h, h]
    · rw [h2]; rfl
  have e2 : σ.set j (some v) = σ := set_self h1
  rw [e1, e2] at z
  exact ⟨S', _, z⟩
theorem Sta.dem {K : PySem.W.Frag} {f : Fm} {τ : List Root} {σ : St} {H : Hp} : ∀ (js : List Nat) {ρ : List Ent}, Sta K f τ ρ σ H → Sta K f τ (demE js ρ) σ H
  | [], _, s => s
  | j :: js, ρ, s => by
    unfold demE
    rw [List.foldl_cons]
    refine Sta.dem js ?_
    split
    · rename_i n t he
      exact s.dem1 he
    · exact s
def uDem (js : List Nat) (u : TEnds → List Ent → Prop) : TEnds → List Ent → Prop := fun De ρ => u De (demE js ρ)
theorem ts_dem (js : List Nat) (h : TSs X sts u) : TSs X sts (uDem js u) := by
  obtain ⟨t1, p1, k1⟩ := h.ok
  exact ⟨⟨_, p1, fun f τ ρ σ H De D hs hl hw => k1 f τ _ σ H De D (hs.dem js) hl hw⟩⟩
theorem ts1_dem (js : List Nat) (h : TS1 X st u) : TS1 X st (uDem js u) := by
  obtain ⟨t1, p1, k1⟩ := h.ok
  exact ⟨⟨_, p1, fun f τ ρ σ H De D hs hl hw => k1 f τ _ σ H De D (hs.dem js) hl hw⟩⟩
theorem ts_pass : TS1 X (.Pass pos) uNext := ⟨⟨_, ps_pass, fun f τ ρ σ H De D hs hl hw => hl.nx ρ σ H hw hs⟩⟩
def uBrk : TEnds → List Ent → Prop := fun De ρ => De.bk ρ
theorem ts_break : TS1 X (.Break pos) (uBrk) := ⟨⟨_, ps_break, fun f τ ρ σ H De D hs hl hw => hl.bk ρ σ H hw hs⟩⟩
def uCnt : TEnds → List Ent → Prop := fun De ρ => De.ct ρ
theorem ts_cont : TS1 X (.Continue pos) (uCnt) := ⟨⟨_, ps_continue, fun f τ ρ σ H De D hs hl hw => hl.ct ρ σ H hw hs⟩⟩
def uNev : TEnds → List Ent → Prop := fun _ _ => False
theorem ts_never : TS1 X st (uNev) := ⟨⟨_, ps_never, fun f τ ρ σ H De D hs hl hw => hw.elim⟩⟩
theorem tss_never : TSs X sts (uNev) := ⟨⟨_, pss_never, fun f τ ρ σ H De D hs hl hw => hw.elim⟩⟩
def uRet (v : List Ent → (Nat → T → List Ent → Prop) → Prop) : TEnds → List Ent → Prop := fun De ρ => v ρ De.rt
theorem ts_ret (he : TVE X e v) : TS1 X (.Return (some e) pos) (uRet v) := by
  obtain ⟨t1, p1, k1⟩ := he.ok
  exact ⟨⟨_, ps_ret p1, fun f τ ρ σ H De D hs hl hw => k1 f τ ρ σ H _ _ hs hw fun n t ρ' v F H' h s => hl.rt n t ρ' σ v F H' h s⟩⟩
def uRetN : TEnds → List Ent → Prop := fun De ρ => De.rt 0 .non ρ
theorem ts_retN : TS1 X (.Return none pos) (uRetN) := by
  refine ⟨⟨_, ps_retN, fun f τ ρ σ H De D hs hl hw => ?_⟩⟩
  obtain ⟨S, rs, s⟩ := hs
  exact hl.rt 0 .non ρ σ .non [] H hw ⟨S, rs, s.pushS .non⟩
def uExp (v : List Ent → (Nat → T → List Ent → Prop) → Prop) : TEnds → List Ent → Prop := fun De ρ => v ρ fun _ _ ρ' => De.nx ρ'
theorem ts_expr (he : TVE X e v) (hs : swapsWith e none pos.line X.env = pure false := by rfl) : TS1 X (.Expr e pos) (uExp v) := by
  obtain ⟨t1, p1, k1⟩ := he.ok
  exact ⟨⟨_, ps_expr p1 hs, fun f τ ρ σ H De D hs hl hw => k1 f τ ρ σ H _ _ hs hw fun n t ρ' v F H' h s => hl.nx ρ' σ H' h s.pop⟩⟩
def uExpP (w : List Ent → (T → Prop) → Prop) : TEnds → List Ent → Prop := fun De ρ => w ρ fun _ => De.nx ρ
theorem ts_exprP (he : TPE X e w) (hs : swapsWith e none pos.line X.env = pure false := by rfl) : TS1 X (.Expr e pos) (uExpP w) := by
  obtain ⟨t1, p1, k1⟩ := he.ok
  exact ⟨⟨_, ps_expr p1 hs, fun f τ ρ σ H De D hs hl hw => k1 _ ρ σ H _ _ hs.rdAll hw fun t v H' h s x => hl.nx ρ σ H' h (hs.same s)⟩⟩
theorem setE_len {ρ : List Ent} {i : Nat} {e : Ent} : (setE ρ i e).length = ρ.length := by unfold setE killA; simp
def uSet (i : Nat) (v : List Ent → (Nat → T → List Ent → Prop) → Prop) : TEnds → List Ent → Prop := fun De ρ => v ρ fun n t ρ' => i < ρ'.length ∧ De.nx (setE ρ' i (.ow n t))
/-- name = value -/
theorem ts_set (i : Nat) {x : Str} (hN : X.N.Nodup) (hi : X.N[i]? = some x) (hx : Loc X.env.scope x) (he : TVE X e v) (hs : swapsWith e (some (.Name x pos')) pos.line X.env = pure false := by rfl) (hf : X.fn x = true ∨ X.env.scope.names.lookup x = some .local := by first | exact .inl rfl | exact .inr rfl | assumption) :
    TS1 X (.Assign [.Name x pos'] e pos) (uSet i v) := by
  obtain ⟨t1, p1, k1⟩ := he.ok
  refine ⟨⟨_, ps_set hN hi hx p1 hs hf, fun f τ ρ σ H De D hs hl hw => k1 f τ ρ σ H _ _ hs hw fun n t ρ' v F H' h s => ?_⟩⟩
  exact hl.nx _ _ H' h.2 (s.setV h.1)
def uSetR (i : Nat) (w : List Ent → (T → Prop) → Prop) : TEnds → List Ent → Prop := fun De ρ => w ρ fun t => i < ρ.length ∧ De.nx (setE ρ i (.ro t))
/-- name = something to be read for a while -/
theorem ts_setR (i : Nat) {x : Str} (hN : X.N.Nodup) (hi : X.N[i]? = some x) (hx : Loc X.env.scope x) (he : TPE X e w) (hs : swapsWith e (some (.Name x pos')) pos.line X.env = pure false := by rfl) (hf : X.fn x = true ∨ X.env.scope.names.lookup x = some .local := by first | exact .inl rfl | exact .inr rfl | assumption) :
    TS1 X (.Assign [.Name x pos'] e pos) (uSetR i w) := by
  obtain ⟨t1, p1, k1⟩ := he.ok
  refine ⟨⟨_, ps_set hN hi hx p1 hs hf, fun f τ ρ σ H De D hs hl hw => k1 _ ρ σ H _ _ hs.rdAll hw fun t v H' h s1 x1 => ?_⟩⟩
  obtain ⟨S, rs, s⟩ := hs.same s1
  exact hl.nx _ _ H' h.2 ⟨S, _, s.setE0 h.1 ⟨rfl, v, rfl, x1.mono fun _ _ => trivial⟩ (fun _ _ z => nomatch z) (fun _ _ _ z => nomatch z)⟩
def uIf (vt : List Ent → (Bool → List Ent → Prop) → Prop) (u1 : TEnds → List Ent → Prop) (u2 : TEnds → List Ent → Prop) : TEnds → List Ent → Prop := fun De ρ => vt ρ fun k ρ1 => if k = true then u1 De ρ1 else u2 De ρ1
theorem ts_if (hc : TVT X c vt) (ha : TSs X ss u1) (hb : TSs X bs u2) : TS1 X (.If c ss bs pos) (uIf vt u1 u2) := by
  obtain ⟨tc, pc, kc⟩ := hc.ok
  obtain ⟨ta, pa, ka⟩ := ha.ok
  obtain ⟨tb, pb, kb⟩ := hb.ok
  refine ⟨⟨_, ps_if pc pa pb, fun f τ ρ σ H De D hs hl hw => ?_⟩⟩
  refine kc f τ ρ σ H _ _ hs hw fun k ρ1 H1 h1 s1 => ?_
  cases k with
  | true => exact ka f τ ρ1 σ H1 De D s1 hl h1
  | false => exact kb f τ ρ1 σ H1 De D s1 hl h1
/-- while, by a word over the slots and a number that falls -/
def uWhile (vt : List Ent → (Bool → List Ent → Prop) → Prop) (ub : TEnds → List Ent → Prop) : TEnds → List Ent → Prop := fun De ρ => ∃ I : Nat → List Ent → Prop, (∃ m, I m ρ) ∧ ∀ m ρ, I m ρ → vt ρ fun k ρ1 =>
  if k = true then ub { De with nx := fun ρ' => ∃ m', m' < m ∧ I m' ρ', ct := fun ρ' => ∃ m', m' < m ∧ I m' ρ', bk := De.nx } ρ1 else De.nx ρ1
theorem ts_while (hp : PassesOwn (model X.prog X.w) X.A X.env X.xe) (hc : TVT X c vt) (hb : TSs X bs u) : TS1 X (.While c bs [] pos) (uWhile vt u) := by
  obtain ⟨tc, pc, kc⟩ := hc.ok
  obtain ⟨tb, pb, kb⟩ := hb.ok
  refine ⟨⟨_, ps_while hp pc pb, fun f τ ρ σ H De D hs hl hw => ?_⟩⟩
  obtain ⟨I, ⟨m0, i0⟩, hI⟩ := hw
  refine ⟨fun m σ H => ∃ ρ, I m ρ ∧ Sta X.K f τ ρ σ H, ⟨m0, ρ, i0, hs⟩, fun m σ H ⟨ρ, im, s⟩ => ?_⟩
  refine kc f τ ρ σ H _ _ s (hI m ρ im) fun k ρ1 H1 h1 s1 => ?_
  cases k with
  | true =>
    rw [if_pos rfl] at h1 ⊢
    refine ⟨fun σ' H' => ∃ m', m' < m ∧ ∃ ρ, I m' ρ ∧ Sta X.K f τ ρ σ' H', fun σ' H' h => h, ?_⟩
    refine kb f τ ρ1 σ H1 { De with nx := fun ρ' => ∃ m', m' < m ∧ I m' ρ', ct := fun ρ' => ∃ m', m' < m ∧ I m' ρ', bk := De.nx } _ s1 ⟨?_, hl.rt, hl.nx, ?_⟩ h1
    · exact fun ρ σ H h s => let ⟨m', hm, h⟩ := h; ⟨m', hm, ρ, h, s⟩
    · exact fun ρ σ H h s => let ⟨m', hm, h⟩ := h; ⟨m', hm, ρ, h, s⟩
  | false => exact hl.nx ρ1 σ H1 h1 s1
/-! ### targets -/
/-- only these slots differ -/
def Offs (js : List Nat) (σ σ' : St) : Prop := σ'.length = σ.length ∧ ∀ m, m ∉ js → σ'[m]? = σ[m]?
theorem Offs.refl {js : List Nat} {σ : St} : Offs js σ σ := ⟨rfl, fun _ _ => rfl⟩
theorem Offs.set {i : Nat} {σ : St} {v : V} : Offs [i] σ (σ.set i (some v)) := ⟨List.length_set, fun m h => List.getElem?_set_ne (fun e => h (by simp [e]))⟩
theorem Offs.trans {js ks : List Nat} {σ σ1 σ2 : St} (a : Offs js σ σ1) (b : Offs ks σ1 σ2) : Offs (js ++ ks) σ σ2 := ⟨b.1.trans a.1, fun m h => by
  rw [List.mem_append, not_or] at h
  exact (b.2 m h.2).trans (a.2 m h.1)⟩
theorem Offs.mono {js ks : List Nat} {σ σ1 : St} (a : Offs js σ σ1) (h : ∀ j ∈ js, j ∈ ks) : Offs ks σ σ1 := ⟨a.1, fun m z => a.2 m fun y => z (h m y)⟩
structure TTg (X : Cx) (tg : Expr) (js : List Nat) (g : T → List Ent → (List Ent → Prop) → Prop) : Prop where
  ok : ∃ gg : TG, PG X tg gg ∧ ∀ (f : Fm) (τ : List Root) (ρ : List Ent) (σ : St) (H : Hp) (S : Addr → Prop) (rs : List Root) (t : T) (v : V) (Q : St → Hp → Prop) (R : List Ent → Prop), StaW X.K f τ ρ σ H S rs → Shr X.K H S t v → g t ρ R → (∀ ρ' σ' rs', R ρ' → Offs js σ σ' → StaW X.K f τ ρ' σ' H S rs' → Q σ' H) → gg v σ H Q
structure TTgs (X : Cx) (tgs : List Expr) (js : List Nat) (g : List T → List Ent → (List Ent → Prop) → Prop) : Prop where
  ok : ∃ gg : TGs, PGs X tgs gg ∧ ∀ (f : Fm) (τ : List Root) (ρ : List Ent) (σ : St) (H : Hp) (S : Addr → Prop) (rs : List Root) (ts : List T) (vs : List V) (Q : St → Hp → Prop) (R : List Ent → Prop), StaW X.K f τ ρ σ H S rs → Shrs X.K H S ts vs → g ts ρ R → (∀ ρ' σ' rs', R ρ' → Offs js σ σ' → StaW X.K f τ ρ' σ' H S rs' → Q σ' H) → gg vs σ H Q
def hName (i : Nat) : T → List Ent → (List Ent → Prop) → Prop := fun t ρ R => i < ρ.length ∧ R (setE ρ i (.ow 0 t))
theorem tg_name (i : Nat) {x : Str} (hN : X.N.Nodup) (hi : X.N[i]? = some x) (hx : Loc X.env.scope x) (hf : X.fn x = true ∨ X.env.scope.names.lookup x = some .local := by first | exact .inl rfl | exact .inr rfl | assumption) : TTg X (.Name x pos) [i] (hName i) := by
  refine ⟨⟨_, pg_name hN hi hx hf, fun f τ ρ σ H S rs t v Q R s hv hg hq => ?_⟩⟩
  exact hq _ _ _ hg.2 .set ((s.pushS hv).setV hg.1)
def hNil : List T → List Ent → (List Ent → Prop) → Prop := fun ts ρ R => match ts with
  | [] => R ρ
  | _ => False
def hCons (g : T → List Ent → (List Ent → Prop) → Prop) (gs : List T → List Ent → (List Ent → Prop) → Prop) : List T → List Ent → (List Ent → Prop) → Prop := fun ts ρ R => match ts with
  | t :: ts => g t ρ fun ρ' => gs ts ρ' R
  | _ => False
theorem tgs_nil : TTgs X [] [] hNil := by
  refine ⟨⟨_, pgs_nil, fun f τ ρ σ H S rs ts vs Q R s hv hg hq => ?_⟩⟩
  cases ts with
  | nil => cases hv; exact ⟨rfl, hq _ _ _ hg .refl s⟩
  | cons _ _ => exact hg.elim
theorem tgs_cons {js ks : List Nat} {tg : Expr} {tgs : List Expr} {g : T → List Ent → (List Ent → Prop) → Prop} {gs : List T → List Ent → (List Ent → Prop) → Prop} (h1 : TTg X tg js g) (h2 : TTgs X tgs ks gs) (hs : (assignEach (tg :: tgs) X.env).map (·.2) = assign tg X.env :: (assignEach tgs X.env).map (·.2) := by rfl) : TTgs X (tg :: tgs) (js ++ ks) (hCons g gs) := by
  obtain ⟨g1, p1, k1⟩ := h1.ok
  obtain ⟨g2, p2, k2⟩ := h2.ok
  refine ⟨⟨_, pgs_cons p1 p2 hs, fun f τ ρ σ H S rs ts vs Q R s hv hg hq => ?_⟩⟩
  cases ts with
  | nil => exact hg.elim
  | cons t ts =>
    obtain ⟨v, r, rfl, a, b⟩ := hv.uncons
    exact ⟨v, r, rfl, k1 f τ ρ σ H S rs t v _ _ s a hg fun ρ' σ' rs' h1 o1 s1 => k2 f τ ρ' σ' H S rs' ts r Q R s1 b h1 fun ρ2 σ2 rs2 h2 o2 s2 => hq ρ2 σ2 rs2 h2 (o1.trans o2) s2⟩
def hTup (gs : List T → List Ent → (List Ent → Prop) → Prop) : T → List Ent → (List Ent → Prop) → Prop := fun t ρ R => match t with
  | .tup ts => gs ts ρ R
  | _ => False
theorem tg_tup {js : List Nat} {tgs : List Expr} {k n : Nat} {gs : List T → List Ent → (List Ent → Prop) → Prop} (hc : X.calm = true) (h : TTgs X tgs js gs) (hlen : ∀ ts ρ R, gs ts ρ R → ts.length = n) (hn : (assignEach tgs X.env).length = n := by rfl) (hst : (assignEach tgs X.env).findIdx? (·.1) = none := by rfl) : TTg X (.Tuple tgs k pos) js (hTup gs) := by
  obtain ⟨g1, p1, k1⟩ := h.ok
  refine ⟨⟨_, pg_tup hc p1 hn hst, fun f τ ρ σ H S rs t v Q R s hv hg hq => ?_⟩⟩
  cases t <;> first | exact hg.elim | skip
  obtain ⟨a, vs, rfl, q, r⟩ := shr_tup hv
  exact ⟨a, vs, rfl, q, by rw [← r.length]; exact hlen _ _ _ hg, k1 f τ ρ σ H S rs _ vs Q R s r hg hq⟩
/-- two names -/
theorem h2_len {i j : Nat} : ∀ ts ρ R, hCons (hName i) (hCons (hName j) hNil) ts ρ R → ts.length = 2 := by
  intro ts ρ R h
  match ts, h with
  | [], h => exact h.elim
  | [_], h => exact h.2.elim
  | [_, _], _ => rfl
  | _ :: _ :: _ :: _, h => exact (h.2.2.elim)
theorem h3_len {i j k : Nat} : ∀ ts ρ R, hCons (hName i) (hCons (hName j) (hCons (hName k) hNil)) ts ρ R → ts.length = 3 := by
  intro ts ρ R h
  match ts, h with
  | [], h => exact h.elim
  | [_], h => exact h.2.elim
  | [_, _], h => exact h.2.2.elim
  | [_, _, _], _ => rfl
  | _ :: _ :: _ :: _ :: _, h => exact (h.2.2.2.elim)
end
end TL
set_option Elab.async false
set_option linter.all false
set_option maxRecDepth 100000
namespace TL
open PySem PySem.Spec PyProof.Rows L2
section
variable {K : PySem.W.Frag} {f : Fm} {S S' : Addr → Prop} {H H' : Hp} {τ ms : List Root} {ρ : List Ent} {σ : St}
/-- a temporary from within forgotten -/
theorem Sta.mid {r : Root} (s : Sta K f (τ ++ ms ++ [r]) ρ σ H) : Sta K f (τ ++ [r]) ρ σ H := by
  obtain ⟨S, rs, s⟩ := s
  refine ⟨S, rs, s.e, s.o, ?_, s.al, s.io, fun q hq => s.tm q ?_⟩
  · refine s.good.pick (fun m => if m < (rs ++ τ).length then m else m + ms.length) (fun m q e => ?_) fun m l r q e1 e2 _ _ z => ?_
    · right
      rw [← List.append_assoc] at e
      have e0 : rs ++ (τ ++ ms ++ [r]) = (rs ++ τ) ++ (ms ++ [r]) := by simp
      rw [e0]
      by_cases hm : m < (rs ++ τ).length
      · rw [if_pos hm, List.getElem?_append_left hm]
        rw [List.getElem?_append_left hm] at e
        exact e
      · rw [if_neg hm]
        rw [List.getElem?_append_right (by omega)] at e ⊢
        have hl := (List.getElem?_eq_some_iff.mp e).1
        rw [List.length_singleton] at hl
        have em : m = (rs ++ τ).length := by omega
        rw [em] at e ⊢
        rw [Nat.sub_self] at e
        have e3 : (rs ++ τ).length + ms.length - (rs ++ τ).length = ms.length := by omega
        rw [e3, List.getElem?_append_right (Nat.le_refl _), Nat.sub_self]
        exact e
    · have l1 := (List.getElem?_eq_some_iff.mp e1).1
      have l2 := (List.getElem?_eq_some_iff.mp e2).1
      rw [← List.append_assoc, List.length_append, List.length_singleton] at l1 l2
      by_cases c1 : m < (rs ++ τ).length
      · by_cases c2 : l < (rs ++ τ).length
        · rw [if_pos c1, if_pos c2] at z; exact z
        · rw [if_pos c1, if_neg c2] at z; omega
      · by_cases c2 : l < (rs ++ τ).length
        · rw [if_neg c1, if_pos c2] at z; omega
        · omega
  · rcases List.mem_append.mp hq with z | z
    · exact List.mem_append_left _ (List.mem_append_left _ z)
    · exact List.mem_append_right _ z
theorem tms_sh {G : List Root} (hG : ∀ r ∈ G, SlotR K H S r.e r.o r.F) : ∀ {ks : List Nat} {ts : List T} {vs : List V} {ms : List Root}, Tms ks ts vs ms → (∀ m ∈ ks, m = 0) → (∀ r ∈ ms, r ∈ G) → ms = shRoots ts vs
  | _, _, _, _, .nil, _, _ => rfl
  | _, _, _, _, .cons (k := k) (t := t) (v := v) (F := F) h, hk, hr => by
    have e := hk k (List.mem_cons_self)
    subst e
    have z := hG _ (hr _ List.mem_cons_self)
    obtain ⟨v', e1, o⟩ := z
    have eF : F = [] := o.zero
    subst eF
    rw [tms_sh hG h (fun m hm => hk m (List.mem_cons_of_mem _ hm)) (fun r hr' => hr r (List.mem_cons_of_mem _ hr'))]
    rfl
theorem Sta.shm {ks : List Nat} {ts : List T} {vs : List V} (s : Sta K f (τ ++ ms) ρ σ H) (h : Tms ks ts vs ms) (hk : ∀ m ∈ ks, m = 0) : ms = shRoots ts vs := by
  obtain ⟨S, rs, s⟩ := s
  refine tms_sh (K := K) (S := S) (H := H) (G := rs ++ (τ ++ ms)) (fun r hr => ?_) h hk fun r hr => by simp [hr]
  obtain ⟨i, hi⟩ := List.mem_iff_getElem?.mp hr
  exact (s.good.slot i r hi).1
theorem shRoots_mem : ∀ {us : List T} {vs : List V}, us.length = vs.length → ∀ {i : Nat} {u : T} {v : V}, us[i]? = some u → vs[i]? = some v → tmp 0 u v [] ∈ shRoots us vs
  | [], _, _, i, u, v, h, _ => by simp at h
  | u0 :: us, [], h, _, _, _, _, _ => by simp at h
  | u0 :: us, v0 :: vs, h, 0, u, v, h1, h2 => by
    cases Option.some.inj h1; cases Option.some.inj h2
    exact List.mem_cons_self
  | u0 :: us, v0 :: vs, h, i + 1, u, v, h1, h2 => List.mem_cons_of_mem _ (shRoots_mem (by simpa using h) (by simpa using h1) (by simpa using h2))
theorem shRoots_shrs {G : List Root} (hG : ∀ r ∈ G, SlotR K H S r.e r.o r.F) : ∀ {us : List T} {vs : List V}, us.length = vs.length → (∀ r ∈ shRoots us vs, r ∈ G) → Shrs K H S us vs
  | [], [], _, _ => .nil
  | [], _ :: _, h, _ => by simp at h
  | _ :: _, [], h, _ => by simp at h
  | u :: us, v :: vs, h, hr => by
    obtain ⟨v', e1, o⟩ := hG _ (hr _ List.mem_cons_self)
    have e : v = v' := Option.some.inj e1
    subst e
    exact .cons o (shRoots_shrs hG (by simpa using h) fun r hr' => hr r (List.mem_cons_of_mem _ hr'))
theorem StaW.shr {us : List T} {vs : List V} {τ' : List Root} {rs : List Root} (s : StaW K f (τ ++ shRoots us vs ++ τ') ρ σ H S rs) (hl : us.length = vs.length) : Shrs K H S us vs :=
  shRoots_shrs (G := rs ++ (τ ++ shRoots us vs ++ τ')) (fun r hr => by
    obtain ⟨i, hi⟩ := List.mem_iff_getElem?.mp hr
    exact (s.good.slot i r hi).1) hl fun r hr => by simp [hr]
end
/-! ### what is walked -/
structure ItH (K : PySem.W.Frag) (J : It) (us : List T) (vs : List V) (ts : List T) : Prop where
  len : us.length = vs.length
  goes : ∀ i H S, Shrs K H S us vs → i < ts.length → J.go i H
  stops : ∀ H S, Shrs K H S us vs → J.stop ts.length H
  yields : ∀ i H S x H', i < ts.length → Shrs K H S us vs → J.yld i H x H' → ∃ t, ts[i]? = some t ∧ Same H H' ∧ Shr K H' (fresh S H) t x
structure TIt (X : Cx) (tg : Expr) (it : Expr) (wi : List Ent → (List T → List Ent → Prop) → Prop) : Prop where
  ok : ∃ ti : TI, PI X tg it ti ∧ ∀ (f : Fm) (τ : List Root) (ρ : List Ent) (σ : St) (H : Hp) (Q : It → Hp → Prop) (R : List T → List Ent → Prop), Sta X.K f τ ρ σ H → wi ρ R →
    (∀ J us vs ts ρ1 H1, R ts ρ1 → ItH X.K J us vs ts → Sta X.K f (τ ++ shRoots us vs) ρ1 σ H1 → Q J H1) → ti σ H Q
section
variable {K : PySem.W.Frag}
theorem ith_lst {a : Addr} {ts : List T} : ItH K (Itl K a) [.lst ts] [.ref a] ts := by
  have inv : ∀ {H S}, Shrs K H S [.lst ts] [.ref a] → ∃ xs, SqL K H a xs ∧ Shrs K H S ts xs := fun {H S} h => by
    obtain ⟨v, e, q⟩ := shrs1 h
    cases e
    obtain ⟨a', vs, e, q, r⟩ := shr_lst q
    cases e
    exact ⟨vs, q.sq, r⟩
  refine ⟨rfl, fun i H S h hi => ?_, fun H S h => ?_, fun i H S x H' hi h y => ?_⟩
  · obtain ⟨xs, q, r⟩ := inv h
    exact walk_list.goes i H (by rw [← r.length]; exact hi) q
  · obtain ⟨xs, q, r⟩ := inv h
    rw [r.length]
    exact walk_list.stops H q
  · obtain ⟨xs, q, r⟩ := inv h
    obtain ⟨e, y2⟩ := walk_list.yields i H x H' (by rw [← r.length]; exact hi) q y
    subst e
    have e1 : ts[i]? = some ts[i] := List.getElem?_eq_getElem hi
    obtain ⟨v, h1, h2⟩ := r.get e1
    rw [y2] at h1; cases h1
    exact ⟨_, e1, Same.refl _, h2.mono fun _ => .inl⟩
theorem ith_scr {a : Addr} {ns : List Int} : ItH K (Itl K a) [.scr ns] [.ref a] (ns.map T.int) := by
  have inv : ∀ {H S}, Shrs K H S [.scr ns] [.ref a] → SqL K H a (ns.map V.int) := fun {H S} h => by
    obtain ⟨v, e, q⟩ := shrs1 h
    cases e
    obtain ⟨a', e, q⟩ := shr_scr q
    cases e
    exact q.sq
  refine ⟨rfl, fun i H S h hi => ?_, fun H S h => ?_, fun i H S x H' hi h y => ?_⟩
  · have q := inv h
    exact walk_list.goes i H (by rw [List.length_map] at hi ⊢; exact hi) q
  · have q := inv h
    have z := walk_list.stops H q
    rw [List.length_map] at z ⊢
    exact z
  · have q := inv h
    obtain ⟨e, y2⟩ := walk_list.yields i H x H' (by rw [List.length_map] at hi ⊢; exact hi) q y
    subst e
    rw [List.getElem?_map] at y2
    cases e1 : ns[i]? with
    | none => rw [e1] at y2; cases y2
    | some n =>
      rw [e1] at y2
      cases y2
      exact ⟨.int n, by rw [List.getElem?_map, e1]; rfl, Same.refl _, .int n⟩
theorem ith_tup {a : Addr} {ts : List T} : ItH K (Itt K a) [.tup ts] [.ref a] ts := by
  have inv : ∀ {H S}, Shrs K H S [.tup ts] [.ref a] → ∃ xs, SqT K H a xs ∧ Shrs K H S ts xs := fun {H S} h => by
    obtain ⟨v, e, q⟩ := shrs1 h
    cases e
    obtain ⟨a', vs, e, q, r⟩ := shr_tup q
    cases e
    exact ⟨vs, q, r⟩
  refine ⟨rfl, fun i H S h hi => ?_, fun H S h => ?_, fun i H S x H' hi h y => ?_⟩
  · obtain ⟨xs, q, r⟩ := inv h
    exact walk_tup.goes i H (by rw [← r.length]; exact hi) q
  · obtain ⟨xs, q, r⟩ := inv h
    rw [r.length]
    exact walk_tup.stops H q
  · obtain ⟨xs, q, r⟩ := inv h
    obtain ⟨e, y2⟩ := walk_tup.yields i H x H' (by rw [← r.length]; exact hi) q y
    subst e
    have e1 : ts[i]? = some ts[i] := List.getElem?_eq_getElem hi
    obtain ⟨v, h1, h2⟩ := r.get e1
    rw [y2] at h1; cases h1
    exact ⟨_, e1, Same.refl _, h2.mono fun _ => .inl⟩
/-- lo, lo + 1, .. -/
def rgT (lo : Int) (n : Nat) : List T := (List.range n).map fun (i : Nat) => T.int (lo + i)
theorem rgT_len {lo : Int} {n : Nat} : (rgT lo n).length = n := by unfold rgT; simp
theorem rgT_get {lo : Int} {n i : Nat} {t : T} : (rgT lo n)[i]? = some t ↔ i < n ∧ t = .int (lo + i) := by
  unfold rgT
  rw [List.getElem?_map]
  by_cases h : i < n
  · rw [List.getElem?_range h]
    simp [h, eq_comm]
  · rw [List.getElem?_eq_none (by simpa using h)]
    simp [h]
theorem ith_rng {lo : Int} {n : Nat} : ItH K (Itr lo n) [] [] (rgT lo n) := by
  refine ⟨rfl, fun i H S h hi => ?_, fun H S h => ?_, fun i H S x H' hi h y => ?_⟩
  · rw [rgT_len] at hi; exact walk_range.goes i H hi trivial
  · rw [rgT_len]; exact walk_range.stops H trivial
  · rw [rgT_len] at hi
    obtain ⟨e, y2⟩ := walk_range.yields i H x H' hi trivial y
    subst e; subst y2
    exact ⟨_, rgT_get.mpr ⟨hi, rfl⟩, Same.refl _, .int _⟩
/-- pairs newly made -/
theorem pair_shr {H H' : Hp} {S : Addr → Prop} {x y : V} {t u : T} {p : Addr} (hp : H p = none) (e : H' = upd H p (.tup [x, y])) (a : Shr K H S t x) (b : Shr K H S u y) : Same H H' ∧ Shr K H' (fresh S H) (.tup [t, u]) (.ref p) := by
  subst e
  have hs : Same H (upd H p (.tup [x, y])) := fun b o e => by rw [upd_ne (ne_of_none e hp)]; exact e
  refine ⟨hs, .tup0 (SqT.of upd_same) ?_⟩
  exact Owns.keep (fun _ z => .inl z) (Shrs.cons a (Shrs.cons b .nil)) (.same hs)
def enT (ts : List T) : List T := ts.mapIdx fun i t => .tup [.int i, t]
theorem enT_get {ts : List T} {i : Nat} {t : T} : (enT ts)[i]? = some t ↔ ∃ u, ts[i]? = some u ∧ t = .tup [.int i, u] := by
  unfold enT
  rw [List.getElem?_mapIdx]
  cases ts[i]? <;> simp [eq_comm]
theorem ith_enum {a : Addr} {ts : List T} : ItH K (Ite K a) [.lst ts] [.ref a] (enT ts) := by
  have inv : ∀ {H S}, Shrs K H S [.lst ts] [.ref a] → ∃ xs, SqL K H a xs ∧ Shrs K H S ts xs := fun {H S} h => by
    obtain ⟨v, e, q⟩ := shrs1 h
    cases e
    obtain ⟨a', vs, e, q, r⟩ := shr_lst q
    cases e
    exact ⟨vs, q.sq, r⟩
  have hl : (enT ts).length = ts.length := by unfold enT; simp
  refine ⟨rfl, fun i H S h hi => ?_, fun H S h => ?_, fun i H S x H' hi h y => ?_⟩
  · obtain ⟨xs, q, r⟩ := inv h
    exact walk_enum.goes i H (by rw [← r.length, ← hl]; exact hi) q
  · obtain ⟨xs, q, r⟩ := inv h
    rw [hl, r.length]
    exact walk_enum.stops H q
  · obtain ⟨xs, q, r⟩ := inv h
    obtain ⟨p, x1, y1, e1, e2, e3, e4, e5⟩ := walk_enum.yields i H x H' (by rw [← r.length, ← hl]; exact hi) q y
    rw [hl] at hi
    have g1 : ts[i]? = some ts[i] := List.getElem?_eq_getElem hi
    obtain ⟨v, h1, h2⟩ := r.get g1
    have e5 : xs[i]? = some y1 := e5
    rw [e5] at h1; cases h1
    cases e4
    subst e1
    obtain ⟨a1, a2⟩ := pair_shr (t := .int (i : Nat)) e2 e3 (.int _) h2
    exact ⟨_, enT_get.mpr ⟨_, g1, rfl⟩, a1, a2⟩
def zpT (ts us : List T) : List T := List.zipWith (fun t u => .tup [t, u]) ts us
theorem zpT_get {ts us : List T} {i : Nat} {t : T} : (zpT ts us)[i]? = some t ↔ ∃ a b, ts[i]? = some a ∧ us[i]? = some b ∧ t = .tup [a, b] := by
  unfold zpT
  rw [List.getElem?_zipWith]
  cases ts[i]? <;> cases us[i]? <;> simp [eq_comm]
theorem ith_zip {a b : Addr} {ts us : List T} : ItH K (Itz K a b) [.lst ts, .lst us] [.ref a, .ref b] (zpT ts us) := by
  have inv : ∀ {H S}, Shrs K H S [.lst ts, .lst us] [.ref a, .ref b] → ∃ xs ys, SqL K H a xs ∧ Shrs K H S ts xs ∧ SqL K H b ys ∧ Shrs K H S us ys := fun {H S} h => by
    obtain ⟨v, v2, e, q, q2⟩ := shrs2 h
    cases e
    obtain ⟨a', vs, e, q, r⟩ := shr_lst q
    cases e
    obtain ⟨a', ws, e, q2, r2⟩ := shr_lst q2
    cases e
    exact ⟨vs, ws, q.sq, r, q2.sq, r2⟩
  have hl : (zpT ts us).length = min ts.length us.length := by unfold zpT; simp
  refine ⟨rfl, fun i H S h hi => ?_, fun H S h => ?_, fun i H S x H' hi h y => ?_⟩
  · obtain ⟨xs, ys, q, r, q2, r2⟩ := inv h
    exact (walk_zip (xs := xs) (ys := ys) (by rw [← r.length, ← r2.length, hl])).goes i H hi ⟨q, q2⟩
  · obtain ⟨xs, ys, q, r, q2, r2⟩ := inv h
    exact (walk_zip (xs := xs) (ys := ys) (by rw [← r.length, ← r2.length, hl])).stops H ⟨q, q2⟩
  · obtain ⟨xs, ys, q, r, q2, r2⟩ := inv h
    obtain ⟨p, x1, y1, e1, e2, e3, e4, e5⟩ := (walk_zip (xs := xs) (ys := ys) (by rw [← r.length, ← r2.length, hl])).yields i H x H' hi ⟨q, q2⟩ y
    rw [hl] at hi
    have g1 : ts[i]? = some (ts[i]'(by omega)) := List.getElem?_eq_getElem (by omega)
    have g2 : us[i]? = some (us[i]'(by omega)) := List.getElem?_eq_getElem (by omega)
    obtain ⟨v, h1, h2⟩ := r.get g1
    have e4 : xs[i]? = some x1 := e4
    have e5 : ys[i]? = some y1 := e5
    rw [e4] at h1; cases h1
    obtain ⟨v, h1, h3⟩ := r2.get g2
    rw [e5] at h1; cases h1
    subst e1
    obtain ⟨a1, a2⟩ := pair_shr e2 e3 h2 h3
    exact ⟨_, zpT_get.mpr ⟨_, _, g1, g2, rfl⟩, a1, a2⟩
end
theorem Sta.fit0 {K : PySem.W.Frag} {f : Fm} {τ : List Root} {ρ : List Ent} {σ : St} {H : Hp} {n : Nat} {t : T} {v : V} {F : List Addr} (s : Sta K f (τ ++ [tmp n t v F]) ρ σ H) : Sta K f (τ ++ shRoots [t] [v]) ρ σ H := by
  obtain ⟨S, rs, s⟩ := s
  obtain ⟨F', S', _, s'⟩ := s.fitV (k := 0) (.inl (Nat.zero_le _))
  have s2 : Sta K f (τ ++ [tmp 0 t v F']) ρ σ H := ⟨S', rs, s'⟩
  have e := s2.shm (ks := [0]) (ts := [t]) (vs := [v]) (.cons .nil) (by simp)
  rw [← e]
  exact s2
theorem Sta.shr1 {K : PySem.W.Frag} {f : Fm} {τ : List Root} {ρ : List Ent} {σ : St} {H : Hp} {us : List T} {vs : List V} (s : Sta K f (τ ++ shRoots us vs) ρ σ H) (hl : us.length = vs.length) : ∃ S, Shrs K H S us vs := by
  obtain ⟨S, rs, s⟩ := s
  refine ⟨S, ?_⟩
  have s : StaW K f (τ ++ shRoots us vs ++ []) ρ σ H S rs := by rw [List.append_nil]; exact s
  exact s.shr hl
section
variable {X : Cx} {tg it e a b c : Expr} {es : List Expr} {pos p p2 tpos : Pos} {elts : List Expr} {kk : Nat} {ks : List Nat} {v va vb : List Ent → (Nat → T → List Ent → Prop) → Prop} {vA : List Ent → (List T → List Ent → Prop) → Prop} {wA : List Ent → (List T → Prop) → Prop}
def iLst (v : List Ent → (Nat → T → List Ent → Prop) → Prop) : List Ent → (List T → List Ent → Prop) → Prop := fun ρ R => v ρ fun _ t ρ1 => match t with
  | .lst ts => R ts ρ1
  | .scr ns => R (ns.map T.int) ρ1
  | _ => False
theorem ti_lst (h : TVE X e v) : TIt X tg e (iLst v) := by
  obtain ⟨te, pe, ke⟩ := h.ok
  refine ⟨⟨_, pi_list pe, fun f τ ρ σ H Q R hs hw hq => ?_⟩⟩
  refine ke f τ ρ σ H _ _ hs hw fun n t ρ' v F H1 h1 s1 => ?_
  have s2 := s1.fit0
  obtain ⟨S, sh⟩ := s2.shr1 rfl
  obtain ⟨v', e, q⟩ := shrs1 sh
  cases e
  cases t <;> first | exact h1.elim | skip
  · obtain ⟨a, vs, rfl, q, r⟩ := shr_lst q
    exact ⟨a, rfl, ⟨vs, q.sq⟩, hq _ _ _ _ _ _ h1 ith_lst s2⟩
  · obtain ⟨a, rfl, q2⟩ := shr_scr q
    exact ⟨a, rfl, ⟨_, q2.sq⟩, hq _ _ _ _ _ _ h1 ith_scr s2⟩
def iTup (v : List Ent → (Nat → T → List Ent → Prop) → Prop) : List Ent → (List T → List Ent → Prop) → Prop := fun ρ R => v ρ fun _ t ρ1 => match t with
  | .tup ts => R ts ρ1
  | _ => False
theorem ti_tup (h : TVE X e v) : TIt X tg e (iTup v) := by
  obtain ⟨te, pe, ke⟩ := h.ok
  refine ⟨⟨_, pi_tup pe, fun f τ ρ σ H Q R hs hw hq => ?_⟩⟩
  refine ke f τ ρ σ H _ _ hs hw fun n t ρ' v F H1 h1 s1 => ?_
  have s2 := s1.fit0
  obtain ⟨S, sh⟩ := s2.shr1 rfl
  obtain ⟨v', e, q⟩ := shrs1 sh
  cases e
  cases t <;> first | exact h1.elim | skip
  obtain ⟨a, vs, rfl, q, r⟩ := shr_tup q
  exact ⟨a, rfl, ⟨vs, q⟩, hq _ _ _ _ _ _ h1 ith_tup s2⟩
variable {wa wb wc : List Ent → (T → Prop) → Prop}
def iRng1 (wa : List Ent → (T → Prop) → Prop) : List Ent → (List T → List Ent → Prop) → Prop := fun ρ R => wa ρ fun t => match t with
  | .int j => -(2 ^ 62) ≤ j ∧ j < 2 ^ 62 ∧ R (rgT 0 j.toNat) ρ
  | _ => False
def iRng2 (wa wb : List Ent → (T → Prop) → Prop) : List Ent → (List T → List Ent → Prop) → Prop := fun ρ R => wa ρ fun t => wb ρ fun u => match t, u with
  | .int i, .int j => (-(2 ^ 62) ≤ i ∧ i < 2 ^ 62 ∧ -(2 ^ 62) ≤ j ∧ j < 2 ^ 62) ∧ R (rgT i (j - i).toNat) ρ
  | _, _ => False
theorem ti_rng1 (hg : Gl X "range") (hm : X.mg "range" = none) (ha : TPE X a wa) (hs : starEach [a] X.env = [(false, eval a X.env)] := by rfl) : TIt X tg (.Call (.Name "range" p) [a] [] pos) (iRng1 wa) := by
  obtain ⟨ta, pa, ka⟩ := (tpa_cons ha tpa_nil hs).ok
  refine ⟨⟨_, pi_range1 hg hm pa hs, fun f τ ρ σ H Q R h1 hw hq => ?_⟩⟩
  refine ka _ ρ σ H _ (fun ts => ∃ j : Int, ts = [.int j] ∧ -(2 ^ 62) ≤ j ∧ j < 2 ^ 62 ∧ R (rgT 0 j.toNat) ρ) h1.rdAll ?_ fun ts vs H1 h2 s1 x1 => ?_
  · show wa ρ fun t => (∃ j : Int, [t] = [T.int j] ∧ -(2 ^ 62) ≤ j ∧ j < 2 ^ 62 ∧ R (rgT 0 j.toNat) ρ)
    have e : (fun t : T => (∃ j : Int, [t] = [T.int j] ∧ -(2 ^ 62) ≤ j ∧ j < 2 ^ 62 ∧ R (rgT 0 j.toNat) ρ)) = fun t => match t with | .int j => -(2 ^ 62) ≤ j ∧ j < 2 ^ 62 ∧ R (rgT 0 j.toNat) ρ | _ => False := by
      funext t
      cases t <;> simp
    rw [e]
    exact hw
  · obtain ⟨j, rfl, h4, h5, h6⟩ := h2
    obtain ⟨v, rfl, x⟩ := shrs1 x1
    exact ⟨j, by rw [shr_int x], h4, h5, hq _ [] [] _ _ _ h6 ith_rng (by rw [show shRoots [] [] = [] from rfl, List.append_nil]; exact h1.same s1)⟩
theorem ti_rng2 (hg : Gl X "range") (hm : X.mg "range" = none) (ha : TPE X a wa) (hb : TPE X b wb) (hs : starEach [a, b] X.env = [(false, eval a X.env), (false, eval b X.env)] := by rfl) (hs2 : starEach [b] X.env = [(false, eval b X.env)] := by rfl) : TIt X tg (.Call (.Name "range" p) [a, b] [] pos) (iRng2 wa wb) := by
  obtain ⟨ta, pa, ka⟩ := (tpa_cons ha (tpa_cons hb tpa_nil hs2) (by rw [hs, hs2])).ok
  refine ⟨⟨_, pi_range2 hg hm pa hs hs2, fun f τ ρ σ H Q R h1 hw hq => ?_⟩⟩
  refine ka _ ρ σ H _ (fun ts => ∃ i j : Int, ts = [.int i, .int j] ∧ (-(2 ^ 62) ≤ i ∧ i < 2 ^ 62 ∧ -(2 ^ 62) ≤ j ∧ j < 2 ^ 62) ∧ R (rgT i (j - i).toNat) ρ) h1.rdAll ?_ fun ts vs H1 h2 s1 x1 => ?_
  · show wa ρ fun t => wb ρ fun u => (∃ i j : Int, [t, u] = [T.int i, T.int j] ∧ (-(2 ^ 62) ≤ i ∧ i < 2 ^ 62 ∧ -(2 ^ 62) ≤ j ∧ j < 2 ^ 62) ∧ R (rgT i (j - i).toNat) ρ)
    have e : (fun t : T => wb ρ fun u => (∃ i j : Int, [t, u] = [T.int i, T.int j] ∧ (-(2 ^ 62) ≤ i ∧ i < 2 ^ 62 ∧ -(2 ^ 62) ≤ j ∧ j < 2 ^ 62) ∧ R (rgT i (j - i).toNat) ρ)) = fun t => wb ρ fun u => match t, u with | .int i, .int j => (-(2 ^ 62) ≤ i ∧ i < 2 ^ 62 ∧ -(2 ^ 62) ≤ j ∧ j < 2 ^ 62) ∧ R (rgT i (j - i).toNat) ρ | _, _ => False := by
      funext t
      congr 1
      funext u
      cases t <;> cases u <;> simp
      exact ⟨fun ⟨i, j, ⟨e1, e2⟩, z⟩ => by subst e1; subst e2; exact z, fun z => ⟨_, _, ⟨rfl, rfl⟩, z⟩⟩
    rw [e]
    exact hw
  · obtain ⟨i, j, rfl, h4, h6⟩ := h2
    obtain ⟨v, v2, rfl, x, y⟩ := shrs2 x1
    exact ⟨i, j, by rw [shr_int x, shr_int y], h4, hq _ [] [] _ _ _ h6 ith_rng (by rw [show shRoots [] [] = [] from rfl, List.append_nil]; exact h1.same s1)⟩
def iEn (vA : List Ent → (List T → List Ent → Prop) → Prop) : List Ent → (List T → List Ent → Prop) → Prop := fun ρ R => vA ρ fun ts ρ1 => match ts with
  | [.lst us] => R (enT us) ρ1
  | _ => False
theorem ti_enum (hg : Gl X "enumerate") (hm : X.mg "enumerate" = none) (ha : TVA X [0] [e] vA) (hs : starEach [e] X.env = [(false, eval e X.env)] := by rfl) : TIt X (.Tuple elts kk tpos) (.Call (.Name "enumerate" p) [e] [] pos) (iEn vA) := by
  obtain ⟨ta, pa, ka⟩ := ha.ok
  refine ⟨⟨_, pi_enum hg hm pa hs, fun f τ ρ σ H Q R h1 hw hq => ?_⟩⟩
  refine ka f τ ρ σ H _ _ h1 hw fun ts ρ1 vs ms H1 h2 hm s1 => ?_
  have em := s1.shm hm (by simp)
  subst em
  have hl : ts.length = vs.length := by rw [hm.lens.1, hm.lens.2]
  obtain ⟨S, sh⟩ := s1.shr1 hl
  split at h2
  · obtain ⟨v, rfl, x⟩ := shrs1 sh
    obtain ⟨a, vs, rfl, q, r⟩ := shr_lst x
    exact ⟨a, vs, rfl, q.sq, hq _ _ _ _ _ _ h2 ith_enum s1⟩
  · exact h2.elim
def iZp (vA : List Ent → (List T → List Ent → Prop) → Prop) : List Ent → (List T → List Ent → Prop) → Prop := fun ρ R => vA ρ fun ts ρ1 => match ts with
  | [.lst us, .lst ws] => R (zpT us ws) ρ1
  | _ => False
theorem ti_zip (hg : Gl X "zip") (hm : X.mg "zip" = none) (ha : TVA X [0, 0] [a, b] vA) (hs : starEach [a, b] X.env = (false, eval a X.env) :: starEach [b] X.env := by rfl) (hpl : (backTo pos (starEach [b] X.env)).any (·.1) = false := by rfl) : TIt X (.Tuple elts kk tpos) (.Call (.Name "zip" p) [a, b] [] pos) (iZp vA) := by
  obtain ⟨ta, pa, ka⟩ := ha.ok
  refine ⟨⟨_, pi_zip hg hm pa hs hpl, fun f τ ρ σ H Q R h1 hw hq => ?_⟩⟩
  refine ka f τ ρ σ H _ _ h1 hw fun ts ρ1 vs ms H1 h2 hm s1 => ?_
  have em := s1.shm hm (by simp)
  subst em
  have hl : ts.length = vs.length := by rw [hm.lens.1, hm.lens.2]
  obtain ⟨S, sh⟩ := s1.shr1 hl
  split at h2
  · obtain ⟨v, v2, rfl, x, x2⟩ := shrs2 sh
    obtain ⟨a, vs, rfl, q, r⟩ := shr_lst x
    obtain ⟨b, ws, rfl, q2, r2⟩ := shr_lst x2
    exact ⟨a, b, vs, ws, rfl, q.sq, q2.sq, hq _ _ _ _ _ _ h2 ith_zip s1⟩
  · exact h2.elim
/-! ### for -/
variable {wi : List Ent → (List T → List Ent → Prop) → Prop} {hT : T → List Ent → (List Ent → Prop) → Prop} {u : TEnds → List Ent → Prop} {body : List Stmt}
def forOk (hT : T → List Ent → (List Ent → Prop) → Prop) (u : TEnds → List Ent → Prop) (De : TEnds) (ts : List T) (ρ1 : List Ent) : Prop := ∃ I : Nat → List Ent → Prop, I 0 ρ1 ∧
  (∀ i t ρ, ts[i]? = some t → I i ρ → hT t ρ (u { De with nx := I (i + 1), ct := I (i + 1), bk := De.nx })) ∧ ∀ ρ, I ts.length ρ → De.nx ρ
def uFor (wi : List Ent → (List T → List Ent → Prop) → Prop) (hT : T → List Ent → (List Ent → Prop) → Prop) (u : TEnds → List Ent → Prop) : TEnds → List Ent → Prop := fun De ρ => wi ρ (forOk hT u De)
theorem ts_for {js : List Nat} (hp : PassesOwn (model X.prog X.w) X.A X.env X.xe) (hc : X.calm = true) (hi : TIt X tg it wi) (hg : TTg X tg js hT) (hb : TSs X body u) (hs : ∀ x, foldedSetIterable it X.env x = pure x := by intro _; rfl) : TS1 X (.For tg it body [] pos) (uFor wi hT u) := by
  obtain ⟨ti, pi, ki⟩ := hi.ok
  obtain ⟨tg, pg, kg⟩ := hg.ok
  obtain ⟨tb, pb, kb⟩ := hb.ok
  refine ⟨⟨_, ps_for hp hc pi pg pb hs, fun f τ ρ σ H De D h1 hl hw => ?_⟩⟩
  refine ki f τ ρ σ H _ _ h1 hw fun J us vs ts ρ1 H1 h2 ith s1 => ?_
  obtain ⟨I, i0, hI, hend⟩ := h2
  have wk : Walk J ts.length (fun H => ∃ S, Shrs X.K H S us vs) (fun i H x H' => J.yld i H x H' ∧ ∃ S, Shrs X.K H S us vs) :=
    ⟨fun i H hi h => let ⟨S, h⟩ := h; ith.goes i H S h hi, fun H h => let ⟨S, h⟩ := h; ith.stops H S h, fun i H x H' _ h y => ⟨y, h⟩⟩
  refine for_it wk (fun i σ H => ∃ ρ, I i ρ ∧ Sta X.K f (τ ++ shRoots us vs) ρ σ H) ⟨ρ1, i0, s1⟩ (fun i σ H _ h => ?_) (fun i x σ H H' hi h y => ?_) fun σ H h => ?_
  · obtain ⟨ρ, _, s⟩ := h
    exact s.shr1 ith.len
  · obtain ⟨ρ, im, S, rs, s⟩ := h
    have s0 : StaW X.K f (τ ++ shRoots us vs ++ []) ρ σ H S rs := by rw [List.append_nil]; exact s
    obtain ⟨t, e1, sm, x1⟩ := ith.yields i H S x H' hi (s0.shr ith.len) y.1
    refine kg f (τ ++ shRoots us vs) ρ σ H' _ rs t x _ _ (s.grow sm) (shr_grown x1) (hI i t ρ e1 im) fun ρ' σ' rs' h3 _ s3 => ?_
    refine kb f (τ ++ shRoots us vs) ρ' σ' H' { De with nx := I (i + 1), ct := I (i + 1), bk := De.nx } _ ⟨_, _, s3⟩ ⟨?_, ?_, ?_, ?_⟩ h3
    · exact fun ρ σ H h s => ⟨ρ, h, s⟩
    · exact fun n t ρ σ v F H h s => hl.rt n t ρ σ v F H h s.mid
    · exact fun ρ σ H h s => hl.nx ρ σ H h s.pop
    · exact fun ρ σ H h s => ⟨ρ, h, s⟩
  · obtain ⟨ρ, im, s⟩ := h
    exact hl.nx ρ σ H (hend ρ im) s.pop
end
end TL
set_option Elab.async false
set_option linter.all false
set_option maxRecDepth 100000
namespace TL
open PySem PySem.Spec PyProof.Rows L2
section
variable {K : PySem.W.Frag} {f : Fm} {S S' : Addr → Prop} {H H' : Hp} {τ τ' ms : List Root} {ρ : List Ent} {σ σ' : St}
theorem Sta.perm (s : Sta K f τ ρ σ H) (g : Nat → Nat) (hg : ∀ (m : Nat) r, τ'[m]? = some r → τ[g m]? = some r) (inj : ∀ m l, m < τ'.length → l < τ'.length → g m = g l → m = l) : Sta K f τ' ρ σ H := by
  obtain ⟨S, rs, s⟩ := s
  refine ⟨S, rs, s.e, s.o, ?_, s.al, s.io, fun q hq => ?_⟩
  · refine s.good.pick (fun m => if m < rs.length then m else rs.length + g (m - rs.length)) (fun m q e => ?_) fun m l r q e1 e2 _ _ z => ?_
    · right
      by_cases hm : m < rs.length
      · rw [if_pos hm, List.getElem?_append_left hm]
        rw [List.getElem?_append_left hm] at e
        exact e
      · rw [if_neg hm, getElem?_skip]
        rw [List.getElem?_append_right (by omega)] at e
        exact hg _ _ e
    · have l1 := (List.getElem?_eq_some_iff.mp e1).1
      have l2 := (List.getElem?_eq_some_iff.mp e2).1
      rw [List.length_append] at l1 l2
      by_cases c1 : m < rs.length
      · by_cases c2 : l < rs.length
        · rw [if_pos c1, if_pos c2] at z; exact z
        · rw [if_pos c1, if_neg c2] at z; omega
      · by_cases c2 : l < rs.length
        · rw [if_neg c1, if_pos c2] at z; omega
        · rw [if_neg c1, if_neg c2] at z
          have := inj (m - rs.length) (l - rs.length) (by omega) (by omega) (by omega)
          omega
  · obtain ⟨i, hi⟩ := List.mem_iff_getElem?.mp hq
    exact s.tm q (List.mem_of_getElem? (hg i q hi))
theorem Sta.rot {r : Root} (s : Sta K f (r :: τ) ρ σ H) : Sta K f (τ ++ [r]) ρ σ H := by
  refine s.perm (fun m => if m < τ.length then m + 1 else 0) (fun m q e => ?_) fun m l h1 h2 z => ?_
  · by_cases hm : m < τ.length
    · rw [List.getElem?_append_left hm] at e
      rw [if_pos hm, List.getElem?_cons_succ]; exact e
    · rw [List.getElem?_append_right (by omega)] at e
      have hl := (List.getElem?_eq_some_iff.mp e).1
      rw [List.length_singleton] at hl
      have e0 : m - τ.length = 0 := by omega
      rw [e0] at e
      rw [if_neg hm]; exact e
  · rw [List.length_append, List.length_singleton] at h1 h2
    by_cases c1 : m < τ.length <;> by_cases c2 : l < τ.length
    · rw [if_pos c1, if_pos c2] at z; omega
    · rw [if_pos c1, if_neg c2] at z; omega
    · rw [if_neg c1, if_pos c2] at z; omega
    · omega
theorem Sta.torF {r : Root} (s : Sta K f (τ ++ [r]) ρ σ H) : Sta K f (r :: τ) ρ σ H := by
  refine s.perm (fun m => if m = 0 then τ.length else m - 1) (fun m q e => ?_) fun m l h1 h2 z => ?_
  · cases m with
    | zero => rw [if_pos rfl, getElem?_last]; exact e
    | succ m =>
      rw [List.getElem?_cons_succ] at e
      rw [if_neg (Nat.succ_ne_zero m)]
      exact getElem?_app e
  · rw [List.length_cons] at h1 h2
    by_cases c1 : m = 0 <;> by_cases c2 : l = 0
    · omega
    · rw [if_pos c1, if_neg c2] at z; omega
    · rw [if_neg c1, if_pos c2] at z; omega
    · rw [if_neg c1, if_neg c2] at z; omega
/-! ### slots set aside -/
theorem foldl_no_get (vs : List Nat) : ∀ (ρ : List Ent) (m : Nat), (vs.foldl (fun ρ j => ρ.set j .no) ρ)[m]? = if m ∈ vs then ρ[m]?.map (fun _ => Ent.no) else ρ[m]? := by
  induction vs with
  | nil => intro ρ m; simp
  | cons v vs ih =>
    intro ρ m
    rw [List.foldl_cons, ih]
    by_cases h : m ∈ vs
    · rw [if_pos h, if_pos (List.mem_cons_of_mem _ h), List.getElem?_set]
      split
      · subst_vars
        split
        · rename_i z; rw [List.getElem?_eq_getElem z]; rfl
        · rename_i z; rw [List.getElem?_eq_none (by omega)]
      · rfl
    · rw [if_neg h]
      by_cases h2 : m = v
      · subst h2
        rw [if_pos List.mem_cons_self, List.getElem?_set]
        rw [if_pos rfl]
        split
        · rename_i z; rw [List.getElem?_eq_getElem z]; rfl
        · rename_i z; rw [List.getElem?_eq_none (by omega)]; rfl
      · rw [if_neg (by simp [h, h2]), List.getElem?_set_ne (fun z => h2 z.symm)]
theorem notIn_get (vs : List Nat) (ρ : List Ent) (m : Nat) : (notIn vs ρ)[m]? = if m ∈ vs then ρ[m]?.map (fun _ => Ent.no) else ρ[m]?.map noRA := by
  unfold notIn
  rw [foldl_no_get, List.getElem?_map]
  split
  · cases ρ[m]? <;> rfl
  · rfl
theorem noRA_idem (e : Ent) : noRA (noRA e) = noRA e := by cases e <;> rfl
theorem notIn_idem (vs : List Nat) (ρ : List Ent) : notIn vs (notIn vs ρ) = notIn vs ρ := by
  apply List.ext_getElem?
  intro m
  rw [notIn_get, notIn_get]
  split
  · cases ρ[m]? <;> rfl
  · cases ρ[m]? with
    | none => rfl
    | some e => show some (noRA (noRA e)) = some (noRA e); rw [noRA_idem]
theorem notIn_nr (vs : List Nat) (ρ : List Ent) : ∀ e ∈ notIn vs ρ, (∀ t, e ≠ .ro t) ∧ ∀ j i t, e ≠ .al j i t := fun e he => by
  obtain ⟨m, hm⟩ := List.mem_iff_getElem?.mp he
  rw [notIn_get] at hm
  split at hm
  · cases q : ρ[m]? with
    | none => rw [q] at hm; cases hm
    | some x => rw [q] at hm; cases Option.some.inj hm; exact ⟨fun t z => (nomatch z), fun j i t z => (nomatch z)⟩
  · cases q : ρ[m]? with
    | none => rw [q] at hm; cases hm
    | some x =>
      rw [q] at hm
      have hm := Option.some.inj hm
      subst hm
      cases x <;> exact ⟨fun t z => (nomatch z), fun j i t z => (nomatch z)⟩
theorem Sta.notIn (vs : List Nat) (s : Sta K f τ ρ σ H) (h : Offs vs σ σ') : Sta K f τ (TL.notIn vs ρ) σ' H := by
  obtain ⟨S, rs0, s0⟩ := s
  obtain ⟨rs, s⟩ : ∃ rs, StaW K f τ (ρ.map noRA) σ H S rs := ⟨_, s0.wk noRA noRA_cases noRA_own⟩
  have hlen : rs.length = σ'.length := by rw [h.1]; exact s.lenσ
  let g : Nat → Root → Root := fun m r => if m ∈ vs then ⟨.no, (σ'[m]?).join, []⟩ else r
  have gg : ∀ m, (rs.mapIdx g)[m]? = rs[m]?.map (g m) := fun m => List.getElem?_mapIdx
  have nal : ∀ (k j i : Nat) t, (TL.notIn vs ρ)[k]? ≠ some (.al j i t) := fun k j i t z => (notIn_nr vs ρ _ (List.mem_of_getElem? z)).2 j i t rfl
  refine ⟨S, rs.mapIdx g, ?_, ?_, ?_, fun k j i t z => absurd z (nal k j i t), fun i n t z => ?_, s.tm⟩
  · apply List.ext_getElem?
    intro m
    rw [List.getElem?_map, gg, notIn_get]
    have e1 : rs[m]?.map (·.e) = ρ[m]?.map noRA := by rw [← List.getElem?_map, s.e, List.getElem?_map]
    cases q : rs[m]? with
    | none =>
      rw [q] at e1
      cases q2 : ρ[m]? with
      | none => split <;> rfl
      | some x => rw [q2] at e1; cases e1
    | some r =>
      rw [q] at e1
      cases q2 : ρ[m]? with
      | none => rw [q2] at e1; cases e1
      | some x =>
        rw [q2] at e1
        show some (g m r).e = _
        by_cases hm : m ∈ vs
        · rw [if_pos hm]
          show some (if m ∈ vs then (⟨.no, (σ'[m]?).join, []⟩ : Root) else r).e = some Ent.no
          rw [if_pos hm]
        · rw [if_neg hm]
          show some (if m ∈ vs then (⟨.no, (σ'[m]?).join, []⟩ : Root) else r).e = some (noRA x)
          rw [if_neg hm]
          exact e1
  · apply List.ext_getElem?
    intro m
    rw [List.getElem?_map, gg]
    have e1 : rs[m]?.map (·.o) = σ[m]? := by rw [← List.getElem?_map, s.o]
    cases q : rs[m]? with
    | none =>
      have : σ'.length ≤ m := by rw [← hlen]; exact List.getElem?_eq_none_iff.mp q
      rw [List.getElem?_eq_none this]; rfl
    | some r =>
      rw [q] at e1
      have hml : m < σ'.length := by rw [← hlen]; exact (List.getElem?_eq_some_iff.mp q).1
      show some (if m ∈ vs then (⟨.no, (σ'[m]?).join, []⟩ : Root) else r).o = _
      by_cases hm : m ∈ vs
      · rw [if_pos hm, List.getElem?_eq_getElem hml]; rfl
      · rw [if_neg hm, h.2 m hm]
        exact e1
  · refine s.good.pick (fun m => m) (fun m q e => ?_) fun m l r q e1 e2 _ _ z => z
    by_cases hm : m < rs.length
    · rw [List.getElem?_append_left (by simpa using hm), gg, List.getElem?_eq_getElem hm] at e
      have e := Option.some.inj e
      subst e
      by_cases hv : m ∈ vs
      · left
        show (if m ∈ vs then (⟨.no, (σ'[m]?).join, []⟩ : Root) else rs[m]).e = _ ∧ (if m ∈ vs then (⟨.no, (σ'[m]?).join, []⟩ : Root) else rs[m]).F = _
        rw [if_pos hv]; exact ⟨rfl, rfl⟩
      · right
        rw [List.getElem?_append_left hm, List.getElem?_eq_getElem hm]
        show some rs[m] = some (if m ∈ vs then (⟨.no, (σ'[m]?).join, []⟩ : Root) else rs[m])
        rw [if_neg hv]
    · right
      rw [List.getElem?_append_right (by simp; omega)] at e
      rw [List.getElem?_append_right (by omega)]
      simpa using e
  · rw [notIn_get] at z
    split at z
    · cases q : ρ[i]? with
      | none => rw [q] at z; cases z
      | some x => rw [q] at z; cases z
    · rename_i hm
      rw [h.2 i hm]
      exact s.io i n t (by rw [List.getElem?_map]; exact z)
/-- the first temporary as a slot behind the others, and back -/
theorem Sta.toSlot {n : Nat} {t : T} {v : V} {F : List Addr} (s : Sta K f (tmp n t v F :: τ) ρ σ H) : Sta K f τ (ρ ++ [.ow n t]) (σ ++ [some v]) H := by
  obtain ⟨S, rs, s⟩ := s
  refine ⟨S, rs ++ [tmp n t v F], by rw [List.map_append, s.e]; rfl, by rw [List.map_append, s.o]; rfl, ?_, fun k j i u z => ?_, fun i m u z => ?_, fun r hr => s.tm r (List.mem_cons_of_mem _ hr)⟩
  · have e : rs ++ [tmp n t v F] ++ τ = rs ++ tmp n t v F :: τ := by simp
    rw [e]; exact s.good
  · by_cases hk : k < ρ.length
    · rw [List.getElem?_append_left hk] at z
      obtain ⟨r, m, U, v0, w, Fi, a1, a2, a3, a4, a5, a6, a7⟩ := (s.al k j i u z).ex
      exact ⟨⟨r, m, U, v0, w, Fi, getElem?_app a1, a2, a3, getElem?_app a4, a5, a6, a7⟩⟩
    · rw [List.getElem?_append_right (by omega)] at z
      have := List.mem_of_getElem? z
      simp at this
  · by_cases hk : i < ρ.length
    · rw [List.getElem?_append_left hk] at z
      have hs : i < σ.length := by rw [← s.lenσ, s.len]; exact hk
      rw [List.getElem?_append_left hs]
      exact s.io i m u z
    · rw [List.getElem?_append_right (by omega)] at z
      have := List.mem_of_getElem? z
      simp at this
theorem Sta.toTmp {n : Nat} {t : T} {v : V} (s : Sta K f τ (ρ ++ [.ow n t]) (σ ++ [some v]) H) (nal : ∀ e ∈ ρ, ∀ j i t, e ≠ .al j i t) : ∃ F, Sta K f (tmp n t v F :: τ) ρ σ H := by
  obtain ⟨S, rs, s⟩ := s
  have hl : rs.length = ρ.length + 1 := by rw [s.len]; simp
  have hl2 : rs.length = σ.length + 1 := by rw [s.lenσ]; simp
  obtain ⟨rs0, r, rfl⟩ : ∃ rs0 r, rs = rs0 ++ [r] := by
    rcases List.eq_nil_or_concat rs with h | ⟨a, b, h⟩
    · rw [h] at hl; simp at hl
    · exact ⟨a, b, by rw [h, List.concat_eq_append]⟩
  have e1 := s.e
  have e2 := s.o
  rw [List.map_append] at e1 e2
  have l1 : rs0.length = ρ.length := by simpa using hl
  have l2 : rs0.length = σ.length := by simpa using hl2
  obtain ⟨a1, a2⟩ := List.append_inj e1 (by simpa using l1)
  obtain ⟨b1, b2⟩ := List.append_inj e2 (by simpa using l2)
  have er : r = tmp n t v r.F := by
    cases r with
    | mk e o F =>
      have a3 : e = .ow n t := by simpa using a2
      have b3 : o = some v := by simpa using b2
      rw [a3, b3]
  refine ⟨r.F, S, rs0, a1, b1, ?_, fun k j i u z => ?_, fun i m u z => ?_, fun q hq => ?_⟩
  · have e : rs0 ++ tmp n t v r.F :: τ = rs0 ++ [r] ++ τ := by rw [← er]; simp
    rw [e]; exact s.good
  · exact absurd rfl (nal _ (List.mem_of_getElem? z) j i u)
  · have hk := (List.getElem?_eq_some_iff.mp z).1
    have e := s.io i m u (getElem?_app z)
    rw [List.getElem?_append_left (by omega)] at e
    exact e
  · rcases List.mem_cons.mp hq with h | h
    · exact ⟨n, t, by rw [h]⟩
    · exact s.tm q h
/-- a list held grows by the value of the last temporary -/
theorem Sta.snocT {k m : Nat} {acc : List T} {D : Addr} {FD F : List Addr} {u : T} {y : V} (s : Sta K f (tmp (k + 1) (.lst acc) (.ref D) FD :: τ ++ [tmp m u y F]) ρ σ H) (hnr : ∀ e ∈ ρ, (∀ t, e ≠ .ro t) ∧ ∀ j i t, e ≠ .al j i t) (hf : fit k m u) :
    ∃ (vs : List V) (F' : List Addr), H D = some (.lst vs) ∧ vs.length = acc.length ∧ Sta K f (tmp (k + 1) (.lst (acc ++ [u])) (.ref D) F' :: τ) ρ σ (upd H D (.lst (vs ++ [y]))) := by
  have s1 : Sta K f (τ ++ [tmp m u y F]) (ρ ++ [.ow (k + 1) (.lst acc)]) (σ ++ [some (.ref D)]) H := Sta.toSlot s
  have hl : ρ.length = σ.length := by obtain ⟨S, rs, s⟩ := s; rw [← s.len, s.lenσ]
  obtain ⟨vs, h1, h2, _, _, h3⟩ := s1.mut (j := ρ.length) (n := k + 1) (p := []) (getElem?_last) rfl (by rw [hl]; exact getElem?_last) .nil (by simp) (by simpa using hf)
  refine ⟨vs, ?_⟩
  have e : (TL.killJ [ρ.length] (ρ ++ [.ow (k + 1) (.lst acc)])).set ρ.length ((Ent.ow (k + 1) (.lst acc)).put (T.put (.lst (acc ++ [u])) [] (.lst acc))) = ρ ++ [.ow (k + 1) (.lst (acc ++ [u]))] := by
    have e1 : TL.killJ [ρ.length] ρ = ρ := by
      unfold TL.killJ
      rw [List.map_congr_left (g := id) (fun x hx => ?_), List.map_id]
      obtain ⟨a, b⟩ := hnr x hx
      cases x <;> first | rfl | exact absurd rfl (a _) | exact absurd rfl (b _ _ _)
    have e2 : TL.killJ [ρ.length] (ρ ++ [.ow (k + 1) (.lst acc)]) = ρ ++ [.ow (k + 1) (.lst acc)] := by
      show (ρ ++ _).map _ = _
      rw [List.map_append]
      show TL.killJ [ρ.length] ρ ++ _ = _
      rw [e1]; rfl
    rw [e2, List.set_append_right _ _ (Nat.le_refl _), Nat.sub_self]
    rfl
  rw [e] at h3
  obtain ⟨F', h4⟩ := h3.toTmp fun e he => (hnr e he).2
  exact ⟨F', h1, h2, h4⟩
end
/-! ### list comprehensions -/
def canG (K : PySem.W.Frag) (js : List Nat) (g : T → List Ent → (List Ent → Prop) → Prop) : TG := fun v σ H Q => ∃ (f : Fm) (τ : List Root) (ρ : List Ent) (S : Addr → Prop) (rs : List Root) (t : T) (R : List Ent → Prop), StaW K f τ ρ σ H S rs ∧ Shr K H S t v ∧ g t ρ R ∧ ∀ ρ' σ' rs', R ρ' → Offs js σ σ' → StaW K f τ ρ' σ' H S rs' → Q σ' H
theorem TTg.can {X : Cx} {tg : Expr} {js : List Nat} {g : T → List Ent → (List Ent → Prop) → Prop} (h : TTg X tg js g) : PG X tg (canG X.K js g) := by
  obtain ⟨gg, pg, kg⟩ := h.ok
  refine ⟨fun pins s σ H v u Q I r hh => ?_⟩
  obtain ⟨f, τ, ρ, S, rs, t, R, h1, h2, h3, h4⟩ := hh
  exact pg.run pins s σ H v u Q I r (kg f τ ρ σ H S rs t v Q R h1 h2 h3 h4)
def canE (K : PySem.W.Frag) (v : List Ent → (Nat → T → List Ent → Prop) → Prop) : TE := fun σ H Q => ∃ (f : Fm) (τ : List Root) (ρ : List Ent) (R : Nat → T → List Ent → Prop), Sta K f τ ρ σ H ∧ v ρ R ∧ ∀ n t ρ' v F H', R n t ρ' → Sta K f (τ ++ [tmp n t v F]) ρ' σ H' → Q v H'
theorem TVE.can {X : Cx} {e : Expr} {v : List Ent → (Nat → T → List Ent → Prop) → Prop} (h : TVE X e v) : PE X e (canE X.K v) := by
  obtain ⟨gg, pg, kg⟩ := h.ok
  refine ⟨fun pins s σ H Q I hh => ?_⟩
  obtain ⟨f, τ, ρ, R, h1, h2, h3⟩ := hh
  exact pg.run pins s σ H Q I (kg f τ ρ σ H Q R h1 h2 h3)
structure TVTs (X : Cx) (ifs : List Expr) (w : List Ent → (Bool → List Ent → Prop) → Prop) : Prop where
  ok : ∃ tt : TT, PTs X ifs tt ∧ ∀ (f : Fm) (τ : List Root) (ρ : List Ent) (σ : St) (H : Hp) (Q : Bool → Hp → Prop) (R : Bool → List Ent → Prop), Sta X.K f τ ρ σ H → w ρ R → (∀ b ρ' H', R b ρ' → Sta X.K f τ ρ' σ H' → Q b H') → tt σ H Q
def wYes : List Ent → (Bool → List Ent → Prop) → Prop := fun ρ R => R true ρ
theorem tvts_nil {X : Cx} : TVTs X [] wYes := ⟨⟨_, pts_nil, fun f τ ρ σ H Q R hs hw hq => hq true ρ H hw hs⟩⟩
theorem tvts_one {X : Cx} {c : Expr} {vt : List Ent → (Bool → List Ent → Prop) → Prop} (h : TVT X c vt) : TVTs X [c] vt := by
  obtain ⟨tt, pt, kt⟩ := h.ok
  exact ⟨⟨_, pts_one pt, kt⟩⟩
def canT (K : PySem.W.Frag) (w : List Ent → (Bool → List Ent → Prop) → Prop) : TT := fun σ H Q => ∃ (f : Fm) (τ : List Root) (ρ : List Ent) (R : Bool → List Ent → Prop), Sta K f τ ρ σ H ∧ w ρ R ∧ ∀ b ρ' H', R b ρ' → Sta K f τ ρ' σ H' → Q b H'
theorem TVTs.can {X : Cx} {ifs : List Expr} {w : List Ent → (Bool → List Ent → Prop) → Prop} (h : TVTs X ifs w) : PTs X ifs (canT X.K w) := by
  obtain ⟨gg, pg, kg⟩ := h.ok
  refine ⟨fun pins s σ H Q I hh => ?_⟩
  obtain ⟨f, τ, ρ, R, h1, h2, h3⟩ := hh
  exact pg.run pins s σ H Q I (kg f τ ρ σ H Q R h1 h2 h3)
theorem wipe_eq {vs : List Nat} {σ σ2 : St} (h : Offs vs σ σ2) : wipe σ2 vs = wipe σ vs := by
  apply List.ext_getElem?
  intro m
  by_cases hm : m ∈ vs
  · have key : ∀ (vs : List Nat) (σ : St), m ∈ vs → (wipe σ vs)[m]? = if m < σ.length then some none else none := by
      intro vs
      induction vs with
      | nil => intro σ h; cases h
      | cons v vs ih =>
        intro σ h
        unfold wipe
        rw [List.getElem?_set, wipe_length]
        by_cases e : v = m
        · rw [if_pos e, e]
        · rw [if_neg e]
          exact ih σ ((List.mem_cons.mp h).resolve_left fun z => e z.symm)
    rw [key vs σ2 hm, key vs σ hm, h.1]
  · rw [wipe_out hm, wipe_out hm]
    exact h.2 m hm
theorem offs_wipe {vs : List Nat} {σ : St} : Offs vs σ (wipe σ vs) := ⟨wipe_length _ _, fun m h => wipe_out h⟩
theorem Offs.symm {vs : List Nat} {σ σ2 : St} (h : Offs vs σ σ2) : Offs vs σ2 σ := ⟨h.1.symm, fun m hm => (h.2 m hm).symm⟩
def lcOk (k : Nat) (hT : T → List Ent → (List Ent → Prop) → Prop) (vt : List Ent → (Bool → List Ent → Prop) → Prop) (ve : List Ent → (Nat → T → List Ent → Prop) → Prop) (vs : List Nat) (R : Nat → T → List Ent → Prop) (_ : KDep R) (ts : List T) (ρ1 : List Ent) : Prop :=
  ∃ I : Nat → List T → List Ent → Prop, I 0 [] (notIn vs ρ1) ∧ (∀ i t acc ρ, ts[i]? = some t → I i acc ρ → hT t ρ fun ρ2 => vt ρ2 fun b ρ3 => if b = true then ve ρ3 fun n u ρ4 => fit k n u ∧ acc.length < 1000000 ∧ I (i + 1) (acc ++ [u]) (notIn vs ρ4) else I (i + 1) acc (notIn vs ρ3)) ∧
    ∀ acc ρ, I ts.length acc ρ → R (k + 1) (.lst acc) ρ
def vLc (k : Nat) (wi : List Ent → (List T → List Ent → Prop) → Prop) (hT : T → List Ent → (List Ent → Prop) → Prop) (vt : List Ent → (Bool → List Ent → Prop) → Prop) (ve : List Ent → (Nat → T → List Ent → Prop) → Prop) (vs : List Nat) : List Ent → (Nat → T → List Ent → Prop) → Prop := fun ρ R => wi ρ (lcOk k hT vt ve vs R ())
section
variable {X : Cx} {elt tg iter : Expr} {ifs : List Expr} {scope : Scope} {own : List (Str × Nat)} {pos : Pos} {js vs : List Nat} {k : Nat} {wi : List Ent → (List T → List Ent → Prop) → Prop} {hT : T → List Ent → (List Ent → Prop) → Prop} {vt : List Ent → (Bool → List Ent → Prop) → Prop} {ve : List Ent → (Nat → T → List Ent → Prop) → Prop}
theorem lc_read {K : PySem.W.Frag} {ti : TI} (ki : ∀ (f : Fm) (τ : List Root) (ρ : List Ent) (σ : St) (H : Hp) (Q : It → Hp → Prop) (R : List T → List Ent → Prop), Sta K f τ ρ σ H → wi ρ R → (∀ J us vs ts ρ1 H1, R ts ρ1 → ItH K J us vs ts → Sta K f (τ ++ shRoots us vs) ρ1 σ H1 → Q J H1) → ti σ H Q)
    (hj : ∀ j ∈ js, j ∈ vs) {f : Fm} {τ : List Root} {ρ : List Ent} {σ : St} {H : Hp} {Q : VK} {R : Nat → T → List Ent → Prop} (hs : Sta K f τ ρ σ H) (hw : vLc k wi hT vt ve vs ρ R) (hq : ∀ n t ρ' v F H', R n t ρ' → Sta K f (τ ++ [tmp n t v F]) ρ' σ H' → Q v H') :
    tLc ti (canG K js hT) (canT K vt) (canE K ve) vs σ H Q := by
  refine ki f τ ρ σ H _ _ hs hw fun J us ws ts ρ1 H1 h2 ith s1 D hD => ?_
  obtain ⟨I, i0, hI, hend⟩ := h2
  have wk : Walk J ts.length (fun H => ∃ S, Shrs K H S us ws) (fun i H x H' => J.yld i H x H' ∧ ∃ S, Shrs K H S us ws) :=
    ⟨fun i H hi h => let ⟨S, h⟩ := h; ith.goes i H S h hi, fun H h => let ⟨S, h⟩ := h; ith.stops H S h, fun i H x H' _ h y => ⟨y, h⟩⟩
  let Pv : Nat → Hp → Prop := fun i H => ∃ acc ρ0 FD, I i acc (notIn vs ρ0) ∧ Sta K f (tmp (k + 1) (.lst acc) (.ref D) FD :: (τ ++ shRoots us ws)) (notIn vs ρ0) (wipe σ vs) H
  have pop1 : ∀ {r : Root} {H ρ σ}, Sta K f (r :: (τ ++ shRoots us ws)) ρ σ H → Sta K f (τ ++ shRoots us ws) ρ σ H := fun s => s.rot.pop
  have swap : ∀ {r : Root} {H ρ σ}, Sta K f (r :: (τ ++ shRoots us ws)) ρ σ H → Sta K f (r :: τ) ρ σ H := fun {r H ρ σ} s => by
    have s : Sta K f ((r :: τ) ++ shRoots us ws) ρ σ H := s
    exact s.pop
  refine lc_it wk Pv ?_ (fun i H _ h => ?_) (fun i x H H' hi h y => ?_) fun H h => ?_
  · obtain ⟨S, rs, s⟩ := s1.notIn vs (offs_wipe (σ := σ))
    exact ⟨[], ρ1, _, i0, Sta.torF ⟨S, rs, s.pushNew hD (n := k) .nil⟩⟩
  · obtain ⟨acc, ρ0, FD, im, s⟩ := h
    exact (pop1 s).shr1 ith.len
  · obtain ⟨acc, ρ0, FD, im, s⟩ := h
    obtain ⟨S, rs, s⟩ := s
    have s0 : StaW K f ((tmp (k + 1) (.lst acc) (.ref D) FD :: τ) ++ shRoots us ws ++ []) (notIn vs ρ0) (wipe σ vs) H S rs := by rw [List.append_nil]; exact s
    obtain ⟨t, e1, sm, x1⟩ := ith.yields i H S x H' hi (s0.shr ith.len) y.1
    refine ⟨f, _, _, _, rs, t, _, s.grow sm, shr_grown x1, hI i t acc _ e1 im, fun ρ2 σ2 rs2 h2 o2 s2 => ?_⟩
    have o3 : Offs vs σ σ2 := ⟨o2.1.trans (wipe_length _ _), fun m hm => (o2.2 m fun z => hm (hj m z)).trans (wipe_out hm)⟩
    have o4 : Offs vs σ2 (wipe σ vs) := ⟨o2.1.symm, fun m hm => (o2.2 m fun z => hm (hj m z)).symm⟩
    refine ⟨wipe_eq o3, f, _, ρ2, _, ⟨_, _, s2⟩, h2, fun b ρ3 H3 h3 s3 => ?_⟩
    cases b with
    | false =>
      rw [if_neg Bool.false_ne_true] at h3 ⊢
      exact ⟨acc, ρ3, FD, h3, s3.notIn vs o4⟩
    | true =>
      rw [if_pos rfl] at h3 ⊢
      refine ⟨f, _, ρ3, _, s3, h3, fun n u ρ4 y4 F4 H4 h4 s4 => ?_⟩
      obtain ⟨h5, h6, h7⟩ := h4
      have s5 := s4.notIn vs o4
      obtain ⟨xs, F', q1, q2, q3⟩ := Sta.snocT s5 (notIn_nr vs ρ4) h5
      exact ⟨xs, q1, by rw [q2]; exact Nat.lt_of_lt_of_le h6 million, acc ++ [u], ρ4, F', h7, q3⟩
  · obtain ⟨acc, ρ0, FD, im, s⟩ := h
    have s2 := (swap s).notIn vs (offs_wipe (σ := σ)).symm
    rw [notIn_idem] at s2
    exact hq (k + 1) (.lst acc) _ _ FD H (hend acc _ im) s2.rot
theorem tv_lc (k : Nat) (js : List Nat) (hc : X.calm = true) (hN : X.N.Nodup) (hi : TIt X tg iter wi) (ok : BlkOk X.N X.env.scope scope own)
    (hg : ∀ (s : Shared) (H : Hp) (C : Addr) (cl : List (Str × Addr)) (fp : List Addr), TTg (X.blk s H scope (compEnvC scope cl C X.env) fp) tg js hT) (ht : ∀ (s : Shared) (H : Hp) (C : Addr) (cl : List (Str × Addr)) (fp : List Addr), TVTs (X.blk s H scope (compEnvC scope cl C X.env) fp) ifs vt)
    (he : ∀ (s : Shared) (H : Hp) (C : Addr) (cl : List (Str × Addr)) (fp : List Addr), TVE (X.blk s H scope (compEnvC scope cl C X.env) fp) elt ve) (hj : ∀ j ∈ js, j ∈ own.map (·.2) := by decide) (hs : ∀ x, foldedSetIterable iter X.env x = pure x := by intro _; rfl) :
    TVE X (.ListComp elt [⟨tg, iter, ifs, 0⟩] scope pos) (vLc k wi hT vt ve (own.map (·.2))) := by
  obtain ⟨ti, pi, ki⟩ := hi.ok
  exact ⟨⟨_, pe_lc (g := canG X.K js hT) (tt := canT X.K vt) (te := canE X.K ve) hc hN pi ok (fun s H C cl fp => (hg s H C cl fp).can) (fun s H C cl fp => (ht s H C cl fp).can) (fun s H C cl fp => (he s H C cl fp).can) hs, fun f τ ρ σ H Q R h1 hw hq => lc_read ki hj h1 hw hq⟩⟩
theorem ts_setLc (i : Nat) {y : Str} {py spos : Pos} (k : Nat) (js : List Nat) (hc : X.calm = true) (hN : X.N.Nodup) (hy : X.N[i]? = some y) (hyl : X.env.scope.names.lookup y = some .local)
    (hsw : swapsWith (.ListComp elt [⟨tg, iter, ifs, 0⟩] scope pos) (some (.Name y py)) spos.line X.env = pure true) (hi : TIt X tg iter wi) (ok : BlkOk X.N X.env.scope scope own)
    (hg : ∀ (s : Shared) (H : Hp) (C : Addr) (cl : List (Str × Addr)) (fp : List Addr), TTg (X.blk s H scope (compEnvC scope cl C X.env) fp) tg js hT) (ht : ∀ (s : Shared) (H : Hp) (C : Addr) (cl : List (Str × Addr)) (fp : List Addr), TVTs (X.blk s H scope (compEnvC scope cl C X.env) fp) ifs vt)
    (he : ∀ (s : Shared) (H : Hp) (C : Addr) (cl : List (Str × Addr)) (fp : List Addr), TVE (X.blk s H scope (compEnvC scope cl C X.env) fp) elt ve) (hj : ∀ j ∈ js, j ∈ own.map (·.2) := by decide) (hs : ∀ x, foldedSetIterable iter X.env x = pure x := by intro _; rfl) :
    TS1 X (.Assign [.Name y py] (.ListComp elt [⟨tg, iter, ifs, 0⟩] scope pos) spos) (uSet i (vLc k wi hT vt ve (own.map (·.2)))) := by
  obtain ⟨ti, pi, ki⟩ := hi.ok
  refine ⟨⟨_, ps_setLc (g := canG X.K js hT) (tt := canT X.K vt) (te := canE X.K ve) hc hN hy hyl hsw pi ok (fun s H C cl fp => (hg s H C cl fp).can) (fun s H C cl fp => (ht s H C cl fp).can) (fun s H C cl fp => (he s H C cl fp).can) hs, fun f τ ρ σ H De D h1 hl hw => ?_⟩⟩
  exact lc_read ki hj h1 hw fun n t ρ' v F H' h s => hl.nx _ _ H' h.2 (s.setV h.1)
end
end TL
set_option Elab.async false
set_option linter.all false
set_option maxRecDepth 100000
namespace TL
open PySem PySem.Spec PyProof.Rows L2
/-! ### the list that a variable stands for -/
def Plc (ρ : List Ent) (k : Nat) : Option (Nat × List Nat × List T × Nat) := match ρ[k]? with
  | some (.ow (n + 1) (.lst ts)) => some (k, [], ts, n)
  | some (.io (n + 1) (.lst ts)) => some (k, [], ts, n)
  | some (.al j i (.lst ts)) => match ρ[j]?.bind Ent.own with
    | some (n + 2, .lst _) => if j = k then none else some (j, [i], ts, n)
    | _ => none
  | _ => none
def putAt (j : Nat) (p : List Nat) (us : List T) (ρ : List Ent) : List Ent := match ρ[j]? with
  | some e => match e.own with
    | some (_, U) => (killJ [j] ρ).set j (e.put (T.put (.lst us) p U))
    | none => ρ
  | none => ρ
def plSet (k : Nat) (ρ : List Ent) (us : List T) : List Ent := match ρ[k]? with
  | some (.al j i _) => setE (putAt j [i] us ρ) k (.al j i (.lst us))
  | _ => putAt k [] us ρ
section
variable {K : PySem.W.Frag} {f : Fm} {S S' : Addr → Prop} {H H' : Hp} {τ τ' ms : List Root} {ρ : List Ent} {σ σ' : St}
theorem Owns.int : ∀ {n : Nat} {ts : List T} {vs : List V} {F : List Addr}, Owns K H S n ts vs F → ∀ {q : Nat} {i : Int}, ts[q]? = some (.int i) → vs[q]? = some (.int i)
  | _, _, _, _, .nil, q, i, h => by simp at h
  | _, _, _, _, .cons o r, 0, i, h => by
    have h := Option.some.inj h
    subst h
    cases o
    rfl
  | _, _, _, _, .cons o r, q + 1, i, h => by
    rw [List.getElem?_cons_succ] at h ⊢
    exact Owns.int r h
theorem own_lst {n : Nat} {ts : List T} {v : V} {F : List Addr} (h : Own K H S (n + 1) (.lst ts) v F) : ∃ (a : Addr) (vs : List V), v = .ref a ∧ H a = some (.lst vs) ∧ vs.length = ts.length ∧ ∀ (q : Nat) (i : Int), ts[q]? = some (.int i) → vs[q]? = some (.int i) := by
  generalize e : n + 1 = m at h
  cases h with
  | lst q r => exact ⟨_, _, rfl, q, (Owns.length r).symm, fun _ _ => r.int⟩
  | sls => cases e
/-- slot k becomes a name for item i of what slot j owns -/
theorem Sta.mkAl {j i k n : Nat} {e : Ent} {Us ts : List T} {v0 v : V} (s : Sta K f τ ρ σ H) (he : ρ[j]? = some e) (ho : e.own = some (n + 2, .lst Us)) (hv0 : σ[j]? = some (some v0)) (w : Way H (.lst Us) v0 [i] (.lst ts) v) (hk : k < ρ.length) (hjk : j ≠ k) :
    Sta K f τ (setE ρ k (.al j i (.lst ts))) (σ.set k (some v)) H := by
  obtain ⟨S, rs, s⟩ := s
  obtain ⟨r, g1, g2, g3, g4⟩ := s.get he
  obtain ⟨q1, q2, q3⟩ := s.good.slot j r g1
  obtain ⟨v0', e1, own⟩ := q1.own (g2 ▸ ho)
  rw [hv0] at g3
  have e0 : v0 = v0' := by
    rw [e1] at g3
    exact Option.some.inj (Option.some.inj g3)
  subst e0
  obtain ⟨Fi, o2, sub⟩ := own.sub w (by simp) (.inl rfl) rfl
  refine ⟨S, _, s.setE0 (v := v) hk ⟨rfl, v, rfl⟩ (fun _ _ z => (nomatch z)) fun j' k' t' z => ?_⟩
  cases z
  exact ⟨hjk, r, n + 1, .lst Us, v0, Fi, g4, g2 ▸ ho, e1, w, by simpa using o2, sub⟩
theorem Sta.plc {k j d : Nat} {p : List Nat} {ts : List T} (s : Sta K f τ ρ σ H) (h : Plc ρ k = some (j, p, ts, d)) :
    ∃ (a : Addr) (e : Ent) (U : T) (v0 : V), σ[k]? = some (some (.ref a)) ∧ ρ[j]? = some e ∧ e.own = some (d + p.length + 1, U) ∧ σ[j]? = some (some v0) ∧ Way H U v0 p (.lst ts) (.ref a) ∧ ∃ vs, H a = some (.lst vs) ∧ vs.length = ts.length ∧ ∀ (q : Nat) (i : Int), ts[q]? = some (.int i) → vs[q]? = some (.int i) := by
  obtain ⟨S, rs, s⟩ := s
  have own0 : ∀ {e : Ent} {n : Nat} {ts : List T}, ρ[k]? = some e → e.own = some (n + 1, .lst ts) → ∃ (a : Addr), σ[k]? = some (some (.ref a)) ∧ ∃ vs, H a = some (.lst vs) ∧ vs.length = ts.length ∧ ∀ (q : Nat) (i : Int), ts[q]? = some (.int i) → vs[q]? = some (.int i) := by
    intro e n ts he ho
    obtain ⟨r, g1, g2, g3, g4⟩ := s.get he
    obtain ⟨v0, e1, own⟩ := (s.good.slot k r g1).1.own (g2 ▸ ho)
    obtain ⟨a, vs, rfl, q, l⟩ := own_lst own
    exact ⟨a, by rw [g3, e1], vs, q, l⟩
  unfold Plc at h
  split at h
  · rename_i n ts' he
    cases h
    obtain ⟨a, h1, h2⟩ := own0 he rfl
    exact ⟨a, _, _, .ref a, h1, he, rfl, h1, .nil, h2⟩
  · rename_i n ts' he
    cases h
    obtain ⟨a, h1, h2⟩ := own0 he rfl
    exact ⟨a, _, _, .ref a, h1, he, rfl, h1, .nil, h2⟩
  · rename_i j' i ts' he
    obtain ⟨r, n, U, v0, v, Fi, a1, a2, a3, a4, a5, a6, a7⟩ := (s.al _ _ _ _ he).ex
    have ej : ρ[j']? = some r.e := by rw [← s.e, List.getElem?_map, a1]; rfl
    have ev : σ[j']? = some (some v0) := by rw [← s.o, List.getElem?_map, a1, ← a3]; rfl
    split at h
    · rename_i m Us' hown
      rw [ej] at hown
      have hown : r.e.own = some (m + 2, .lst Us') := hown
      rw [a2] at hown
      cases hown
      split at h
      · cases h
      · cases h
        obtain ⟨a, vs, rfl, q, l⟩ := own_lst a6
        exact ⟨a, r.e, _, v0, a4, ej, a2, ev, a5, vs, q, l⟩
    · cases h
  · cases h
theorem plc_cases {k j d : Nat} {p : List Nat} {ts : List T} (h : Plc ρ k = some (j, p, ts, d)) : (p = [] ∧ j = k ∧ ∃ e, ρ[k]? = some e ∧ e.own = some (d + 1, .lst ts)) ∨ (∃ i, p = [i] ∧ ρ[k]? = some (.al j i (.lst ts)) ∧ j ≠ k ∧ ∃ e Us, ρ[j]? = some e ∧ e.own = some (d + 2, .lst Us)) := by
  unfold Plc at h
  split at h
  · rename_i he; cases h; exact .inl ⟨rfl, rfl, _, he, rfl⟩
  · rename_i he; cases h; exact .inl ⟨rfl, rfl, _, he, rfl⟩
  · rename_i he
    split at h
    · rename_i m Us' hown
      split at h
      · cases h
      · rename_i hne
        cases h
        cases q : ρ[j]? with
        | none => rw [q] at hown; cases hown
        | some e =>
          rw [q] at hown
          exact .inr ⟨_, rfl, he, hne, e, Us', rfl, hown⟩
    · cases h
  · cases h
theorem Way.one {U t : T} {v0 v : V} {i : Nat} (w : Way H U v0 [i] t v) : (∃ b vs ts, U = .lst ts ∧ v0 = .ref b ∧ H b = some (.lst vs) ∧ vs[i]? = some v ∧ ts[i]? = some t) ∨ (∃ b vs ts, U = .tup ts ∧ v0 = .ref b ∧ H b = some (.tup vs) ∧ vs[i]? = some v ∧ ts[i]? = some t) := by
  cases w with
  | lst h1 h2 h3 w => cases w; exact .inl ⟨_, _, _, rfl, rfl, h1, h2, h3⟩
  | tup h1 h2 h3 w => cases w; exact .inr ⟨_, _, _, rfl, rfl, h1, h2, h3⟩
theorem plSet_var {k : Nat} {us : List T} (h : ∀ j i t, ρ[k]? ≠ some (.al j i t)) : plSet k ρ us = putAt k [] us ρ := by
  unfold plSet
  split
  · rename_i e; exact absurd e (h _ _ _)
  · rfl
theorem putAt_eq {j n : Nat} {p : List Nat} {us : List T} {e : Ent} {U : T} (he : ρ[j]? = some e) (ho : e.own = some (n, U)) : putAt j p us ρ = (killJ [j] ρ).set j (e.put (T.put (.lst us) p U)) := by
  unfold putAt
  simp only [he, ho]
theorem killJ_len {js : List Nat} : (killJ js ρ).length = ρ.length := by unfold killJ; simp
/-- the list that variable k stands for, changed -/
theorem Sta.plMut {m k j d : Nat} {t2 : T} {v2 : V} {F2 : List Addr} {p : List Nat} {ts : List T} (s : Sta K f (τ ++ [tmp m t2 v2 F2]) ρ σ H) (h : Plc ρ k = some (j, p, ts, d)) (hf : fit d m t2) :
    ∃ (a : Addr) (vs : List V), σ[k]? = some (some (.ref a)) ∧ H a = some (.lst vs) ∧ vs.length = ts.length ∧ (∀ i, i < ts.length → Sta K f τ (plSet k ρ (ts.set i t2)) σ (upd H a (.lst (vs.set i v2)))) ∧
      Sta K f τ (plSet k ρ (ts ++ [t2])) σ (upd H a (.lst (vs ++ [v2]))) := by
  obtain ⟨a, e, U, v0, h1, h2, h3, h4, w, vs0, q0, l0⟩ := s.plc h
  have e1 : d + p.length + 1 - p.length - 1 = d := by omega
  obtain ⟨vs, g1, g2, g3, g4, g5⟩ := s.mut h2 h3 h4 w (by omega) (by rw [e1]; exact hf)
  refine ⟨a, vs, h1, g1, g2, ?_⟩
  have kl : k < ρ.length := by
    rcases plc_cases h with ⟨_, rfl, e, he, _⟩ | ⟨i, _, he, _⟩
    · exact (List.getElem?_eq_some_iff.mp he).1
    · exact (List.getElem?_eq_some_iff.mp he).1
  have key : ∀ (us : List T) (ws : List V), Sta K f τ ((TL.killJ [j] ρ).set j (e.put (T.put (.lst us) p U))) σ (upd H a (.lst ws)) → Sta K f τ (plSet k ρ us) σ (upd H a (.lst ws)) := fun us ws z => by
    rcases plc_cases h with ⟨rfl, rfl, e', he, ho⟩ | ⟨i, rfl, he, hne, e', Us, he', ho'⟩
    · rw [plSet_var (fun j i t y => by rw [he] at y; cases y; cases ho), putAt_eq h2 h3]
      exact z
    · rw [h2] at he'; cases he'
      rw [h3] at ho'
      cases ho'
      have e2 : plSet k ρ us = setE (putAt j [i] us ρ) k (.al j i (.lst us)) := by unfold plSet; rw [he]
      rw [e2, putAt_eq h2 h3]
      have hj : j < ρ.length := (List.getElem?_eq_some_iff.mp h2).1
      have nv0 := g3 (by simp)
      have ow := put_own h3 (T.put (.lst us) [i] (.lst Us))
      have et : T.put (.lst us) [i] (.lst Us) = .lst (Us.set i (.lst us)) := rfl
      have w2 : Way (upd H a (.lst ws)) (.lst (Us.set i (.lst us))) v0 [i] (.lst us) (.ref a) := by
        rcases w.one with ⟨b, xs, ys, z1, z2, z3, z4, z5⟩ | ⟨b, xs, ys, z1, _⟩
        · cases z1
          subst z2
          have hba : b ≠ a := fun z => nv0 (by rw [z])
          have hi : i < Us.length := (List.getElem?_eq_some_iff.mp z5).1
          exact .lst (by rw [upd_ne hba]; exact z3) z4 (by rw [List.getElem?_set_self hi]) .nil
        · cases z1
      have s2 := z.mkAl (j := j) (i := i) (k := k) (n := d) (Us := Us.set i (.lst us)) (ts := us) (by rw [List.getElem?_set_self (by rw [killJ_len]; exact hj)]) (by rw [et] at ow ⊢; exact ow) h4 w2 (by rw [List.length_set, killJ_len]; exact kl) hne
      rw [set_self h1] at s2
      exact s2
  exact ⟨fun i hi => key _ _ (g4 i hi), key _ _ g5⟩
end
/-! ### statements that change lists -/
section
variable {X : Cx} {e a b c ie : Expr} {pos p p2 pos' spos tpos : Pos} {w wi : List Ent → (T → Prop) → Prop} {v : List Ent → (Nat → T → List Ent → Prop) → Prop}
def uSt (k : Nat) (v : List Ent → (Nat → T → List Ent → Prop) → Prop) (wi : List Ent → (T → Prop) → Prop) : TEnds → List Ent → Prop := fun De ρ => v ρ fun m t2 ρ1 => match Plc ρ1 k with
  | some (_, _, ts, d) => wi ρ1 fun ti => match ti with
    | .int z => match ixN ts.length z with
      | some q => fit d m t2 ∧ De.nx (plSet k ρ1 (ts.set q t2))
      | none => False
    | _ => False
  | none => False
theorem ixN_lt {n q : Nat} {z : Int} (h : ixN n z = some q) : q < n := (ixN_seq h).2.1
/-- x[i] = e -/
theorem ts_store (k : Nat) {x : Str} (he : TVE X e v) (hi : TPE X ie wi) (hN : X.N[k]? = some x := by rfl) (hv : Vis X.env.scope x := by first | exact Or.inl rfl | exact Or.inr (Or.inl rfl) | exact Or.inr (Or.inr rfl)) (hd : (x == ("__debug__" : Str)) = false := by decide)
    (hcd : (x == ("__classdict__" : Str)) = false := by decide) (hs : swapsWithSole [.Subscript (.Name x p) ie tpos] e pos.line X.env = pure false := by rfl) (hw : swappedStores [.Subscript (.Name x p) ie tpos] e X.env = pure none := by rfl)
    (h1 : (assignEach [.Subscript (.Name x p) ie tpos] X.env).map (·.2) = [assign (.Subscript (.Name x p) ie tpos) X.env] := by rfl)
    (ha : ∀ v, assign (.Subscript (.Name x p) ie tpos) X.env v = (do
      let ov ← holding [v] (eval (.Name x p) X.env)
      let iv ← holding [v, ov] (eval ie X.env)
      standAt tpos
      holding [v, ov, iv] (setItem ov iv v)
      release [v, ov, iv] []) := by intro _; rfl) : TS1 X (.Assign [.Subscript (.Name x p) ie tpos] e pos) (uSt k v wi) := by
  obtain ⟨te, pe, ke⟩ := he.ok
  obtain ⟨ti, pi, ki⟩ := hi.ok
  refine ⟨⟨_, ps_asg pe (pg_sub (pe_var hN hv hd hcd) pi set_list ha) hs hw h1, fun f τ ρ σ H De D h1 hl hw => ?_⟩⟩
  refine ke f τ ρ σ H _ _ h1 hw fun m t2 ρ1 v2 F2 H1 h2 s1 => ?_
  have rd := s1.rdAll
  cases q : Plc ρ1 k with
  | none => simp only [q] at h2
  | some x =>
    obtain ⟨j, p, ts, d⟩ := x
    simp only [q] at h2
    obtain ⟨a, e, U, v0, g1, _⟩ := s1.plc q
    refine ⟨.ref a, g1, ki _ ρ1 σ H1 _ _ rd h2 fun t iv H2 h3 sm x1 => ?_⟩
    cases t <;> first | exact h3.elim | skip
    rename_i z
    have h3 : match ixN ts.length z with
      | some q => fit d m t2 ∧ De.nx (plSet k ρ1 (ts.set q t2))
      | none => False := h3
    cases qz : ixN ts.length z with
    | none => simp only [qz] at h3
    | some y =>
      simp only [qz] at h3
      obtain ⟨a', vs, b1, b2, b3, b4, _⟩ := (s1.same sm).plMut q h3.1
      rw [g1] at b1
      cases b1
      exact ⟨a, vs, z, y, rfl, shr_int x1, b2, by rw [b3]; exact qz, hl.nx _ σ _ h3.2 (b4 y (ixN_lt qz))⟩
def rGetL : V → V → Hp → VK → Prop := fun o i H Q => ∃ p xs k v, o = .ref p ∧ i = .int k ∧ H p = some (.lst xs) ∧ atI xs k = some v ∧ Q v H
theorem get_list : PGet X rGetL := by
  intro pins s σ H o i ov iv Q I ro ri h
  obtain ⟨p, xs, k, z, rfl, rfl, hq, he, q⟩ := h
  cases ro
  obtain ⟨t, rfl⟩ := ri
  obtain ⟨its, r, pl, hz⟩ := I.list (SqS.sq (S := fun _ => True) ⟨hq, trivial⟩)
  obtain ⟨j, h1, h2, h3, h4, h5⟩ := atI_get he
  obtain ⟨w, ew, rw'⟩ := r.get h2
  have hl := r.length
  have hn := line63
  have fin : EP X pins σ Q w s := ⟨z, H, I, rw', q⟩
  by_cases h0 : 0 ≤ k
  · have hj : k.toNat = j := by
      rw [seqIndex_of h0 h5] at h1
      exact Option.some.inj h1
    exact wpAny_getItem_list pl.isList h0 (by omega) (by rw [hj]; simpa using ew) fin
  · have hj : (k + (its.toArray.size : Int)).toNat = j := by
      rw [seqIndex_neg (by omega) h4] at h1
      rw [List.size_toArray, ← hl]
      exact Option.some.inj h1
    exact wpAny_getItem_list_neg pl.isList (by omega) (by rw [List.size_toArray] <;> omega) (by omega) (by rw [hj]; simpa using ew) fin
def uAu (k : Nat) (g : Int → Int → Int) (wi w : List Ent → (T → Prop) → Prop) : TEnds → List Ent → Prop := fun De ρ => match Plc ρ k with
  | some (_, _, ts, _) => wi ρ fun ti => match ti with
    | .int z => match ixN ts.length z with
      | some q => match ts[q]? with
        | some (.int old) => w ρ fun t => match t with
          | .int y => De.nx (plSet k ρ (ts.set q (.int (g old y))))
          | _ => False
        | _ => False
      | none => False
    | _ => False
  | none => False
/-- x[i] op= e on ints -/
theorem ts_aug (k : Nat) {x : Str} {op : Operator} {g : Int → Int → Int} (hop : PIp X op (ipI g)) (hi : TPE X ie wi) (he : TPE X e w) (hN : X.N[k]? = some x := by rfl) (hv : Vis X.env.scope x := by first | exact Or.inl rfl | exact Or.inr (Or.inl rfl) | exact Or.inr (Or.inr rfl)) (hd : (x == ("__debug__" : Str)) = false := by decide)
    (hcd : (x == ("__classdict__" : Str)) = false := by decide)
    (ha : ∀ ov iv new, augStore ie ov iv new = (do holding [new, ov, iv] (setItem ov iv new); release [new, ov, iv] []; pure .next) := by intros; rfl) : TS1 X (.AugAssign (.Subscript (.Name x p) ie tpos) op e pos) (uAu k g wi w) := by
  obtain ⟨te, pe, ke⟩ := he.ok
  obtain ⟨ti, pi, ki⟩ := hi.ok
  refine ⟨⟨_, ps_augS (pe_var hN hv hd hcd) pi get_list pe hop set_list ha, fun f τ ρ σ H De D h1 hl hw => ?_⟩⟩
  have rd := h1.rdAll
  unfold uAu at hw
  cases q : Plc ρ k with
  | none => simp only [q] at hw
  | some x =>
    obtain ⟨j, p, ts, d⟩ := x
    simp only [q] at hw
    obtain ⟨a, e, U, v0, g1, _⟩ := h1.plc q
    refine ⟨.ref a, g1, ki _ ρ σ H _ _ rd hw fun t iv H2 h3 sm x1 => ?_⟩
    cases t <;> first | exact h3.elim | skip
    rename_i z
    simp only at h3
    cases qz : ixN ts.length z with
    | none => simp only [qz] at h3
    | some y =>
      simp only [qz] at h3
      cases qo : ts[y]? with
      | none => simp only [qo] at h3
      | some o =>
        simp only [qo] at h3
        cases o <;> first | exact h3.elim | skip
        rename_i old
        have s2 := h1.same sm
        obtain ⟨a', e', U', v0', c1, _, _, _, _, vs, c2, c3, c4⟩ := s2.plc q
        rw [g1] at c1
        cases c1
        have iv' := shr_int x1
        subst iv'
        refine ⟨a, vs, z, .int old, rfl, rfl, c2, by unfold atI; rw [c3, qz]; exact c4 y old qo, ke _ ρ σ H2 _ _ s2.rdAll h3 fun t v3 H3 h4 sm3 x3 => ?_⟩
        cases t <;> first | exact h4.elim | skip
        rename_i yv
        have s3 := s2.same sm3
        obtain ⟨S, rs, s3⟩ := s3
        have s4 : Sta X.K f (τ ++ [tmp 0 (.int (g old yv)) (.int (g old yv)) []]) ρ σ H3 := ⟨S, rs, s3.pushS (.int _)⟩
        obtain ⟨a', vs', b1, b2, b3, b4, _⟩ := s4.plMut q (.inr rfl)
        rw [g1] at b1
        cases b1
        exact ⟨old, yv, rfl, shr_int x3, a, vs', z, y, rfl, rfl, b2, by rw [b3]; exact qz, hl.nx _ σ _ h4 (b4 y (ixN_lt qz))⟩
def uAp (k : Nat) (v : List Ent → (Nat → T → List Ent → Prop) → Prop) : TEnds → List Ent → Prop := fun De ρ => (Plc ρ k).isSome = true ∧ v ρ fun m t2 ρ1 => match Plc ρ1 k with
  | some (_, _, ts, d) => fit d m t2 ∧ ts.length < 1000000 ∧ De.nx (plSet k ρ1 (ts ++ [t2]))
  | none => False
/-- x.append(e) -/
theorem ts_app (k : Nat) {x : Str} {apos cpos : Pos} (he : TVE X e v) (hN : X.N[k]? = some x := by rfl) (hv : Vis X.env.scope x := by first | exact Or.inl rfl | exact Or.inr (Or.inl rfl) | exact Or.inr (Or.inr rfl)) (hd : (x == ("__debug__" : Str)) = false := by decide)
    (hcd : (x == ("__classdict__" : Str)) = false := by decide) (hsw : swapsWith (.Call (.Attribute (.Name x p) "append" apos) [e] [] cpos) none pos.line X.env = pure false := by rfl)
    (hbase : attributeBase (.Name x p) "append" X.env (eval (.Name x p) X.env) = eval (.Name x p) X.env := by rfl)
    (hfew : ((backTo cpos (starEach [e] X.env)).all (fun x => !x.1) && (backToKw cpos (keywordEach [] X.env)).all (fun x => x.1.isSome)
      && decide ([e].length + ([] : List Keyword).length + (if ([] : List Keyword).isEmpty then 0 else 1) < 30)) = true := by rfl)
    (hline : (apos.endLine == cpos.line) = true := by rfl) (hs : starEach [e] X.env = (false, eval e X.env) :: starEach [] X.env := by rfl) (hplain : (backTo cpos (starEach [] X.env)).any (·.1) = false := by rfl) :
    TS1 X (.Expr (.Call (.Attribute (.Name x p) "append" apos) [e] [] cpos) pos) (uAp k v) := by
  obtain ⟨te, pe, ke⟩ := he.ok
  refine ⟨⟨_, ps_expr (pe_bm PySem.F.plainAttrs_list PySem.F.slot_list_append PySem.F.type_list_append mt_append (pe_var hN hv hd hcd) (pa_cons pe pa_nil hs) hbase hfew hline hs hplain) hsw, fun f τ ρ σ H De D h1 hl hw => ?_⟩⟩
  obtain ⟨hw1, hw2⟩ := hw
  cases q : Plc ρ k with
  | none => rw [q] at hw1; cases hw1
  | some x =>
    obtain ⟨j, p, ts, d⟩ := x
    obtain ⟨a, e, U, v0, g1, _, _, _, _, vs, g2, _⟩ := h1.plc q
    refine ⟨.ref a, g1, .inl ⟨rfl, vs, SqS.sq (S := fun _ => True) ⟨g2, trivial⟩⟩, ke f τ ρ σ H _ _ h1 hw2 fun m t2 ρ1 v2 F2 H1 h2 s1 => ?_⟩
    cases q2 : Plc ρ1 k with
    | none => simp only [q2] at h2
    | some x =>
      obtain ⟨j, p, ts, d⟩ := x
      simp only [q2] at h2
      obtain ⟨a', vs', b1, b2, b3, _, b5⟩ := s1.plMut q2 h2.1
      rw [g1] at b1
      cases b1
      exact ⟨a, vs', v2, rfl, rfl, b2, by rw [b3]; exact Nat.lt_of_lt_of_le h2.2.1 million, hl.nx _ σ _ h2.2.2 b5⟩
/-- x op= e, ints -/
def uAuN (i : Nat) (g : Int → Int → Int) (v : List Ent → (Nat → T → List Ent → Prop) → Prop) : TEnds → List Ent → Prop := fun De ρ => match ρ[i]?.bind Ent.tr with
  | some (.int x) => v ρ fun _ t ρ1 => match t with
    | .int y => i < ρ1.length ∧ De.nx (setE ρ1 i (.ow 0 (.int (g x y))))
    | _ => False
  | _ => False
theorem ts_augN (i : Nat) {x : Str} {op : Operator} {g : Int → Int → Int} (hop : PIp X op (ipI g)) (hN : X.N.Nodup) (hi : X.N[i]? = some x) (hx : Loc X.env.scope x) (he : TVE X e v) (hf : X.fn x = true ∨ X.env.scope.names.lookup x = some .local := by first | exact .inl rfl | exact .inr rfl | assumption) :
    TS1 X (.AugAssign (.Name x pos') op e pos) (uAuN i g v) := by
  obtain ⟨te, pe, ke⟩ := he.ok
  refine ⟨⟨_, ps_aug hN hi hx pe hop hf, fun f τ ρ σ H De D h1 hl hw => ?_⟩⟩
  unfold uAuN at hw
  split at hw
  · rename_i xv q
    cases q1 : ρ[i]? with
    | none => rw [q1] at q; cases q
    | some e0 =>
      rw [q1] at q
      obtain ⟨v1, e1, x1⟩ := h1.rdAll i e0 _ q1 q
      have z := shr_int x1
      subst z
      refine ⟨.int xv, e1, ke f τ ρ σ H _ _ h1 hw fun m t2 ρ1 v2 F2 H1 h2 s1 => ?_⟩
      cases t2 <;> first | exact h2.elim | skip
      rename_i y
      obtain ⟨h3, h4⟩ := h2
      have x2 := shr_int s1.last2
      subst x2
      obtain ⟨S, rs, s2⟩ := s1.pop
      exact ⟨xv, y, rfl, rfl, hl.nx _ _ _ h4 ⟨S, _, (s2.pushS (.int _)).setV h3⟩⟩
  · exact hw.elim
/-- row = x[i]: a name for an item of what x owns -/
def uAlias (r k : Nat) (wi : List Ent → (T → Prop) → Prop) : TEnds → List Ent → Prop := fun De ρ => match ρ[k]?.bind Ent.own with
  | some (_ + 2, .lst us) => wi ρ fun ti => match ti with
    | .int z => match ixN us.length z with
      | some q => match us[q]? with
        | some (.lst ts) => k ≠ r ∧ r < ρ.length ∧ De.nx (setE ρ r (.al k q (.lst ts)))
        | _ => False
      | none => False
    | _ => False
  | _ => False
theorem ts_alias (r k : Nat) {y x : Str} {spos : Pos} (hNd : X.N.Nodup) (hr : X.N[r]? = some y) (hy : Loc X.env.scope y) (hi : TPE X ie wi) (hpx : PlainIx ie) (hN : X.N[k]? = some x := by rfl) (hv : Vis X.env.scope x := by first | exact Or.inl rfl | exact Or.inr (Or.inl rfl) | exact Or.inr (Or.inr rfl)) (hd : (x == ("__debug__" : Str)) = false := by decide)
    (hcd : (x == ("__classdict__" : Str)) = false := by decide) (hs : swapsWith (.Subscript (.Name x p) ie spos) (some (.Name y pos')) pos.line X.env = pure false := by rfl) (hf : X.fn y = true ∨ X.env.scope.names.lookup y = some .local := by first | exact .inl rfl | exact .inr rfl | assumption) :
    TS1 X (.Assign [.Name y pos'] (.Subscript (.Name x p) ie spos) pos) (uAlias r k wi) := by
  obtain ⟨ti, pi, ki⟩ := hi.ok
  refine ⟨⟨_, ps_set hNd hr hy (pe_ix ix_seq (pe_var hN hv hd hcd) pi hpx) hs hf, fun f τ ρ σ H De D h1 hl hw => ?_⟩⟩
  unfold uAlias at hw
  split at hw
  · rename_i n us q
    cases q1 : ρ[k]? with
    | none => rw [q1] at q; cases q
    | some e0 =>
      rw [q1] at q
      have q : e0.own = some (n + 2, .lst us) := q
      have hσ : ∀ {H : Hp}, Sta X.K f τ ρ σ H → ∃ (a : Addr) (S : Addr → Prop) (vs : List V) (F : List Addr), σ[k]? = some (some (.ref a)) ∧ H a = some (.lst vs) ∧ Owns X.K H S (n + 1) us vs F := fun {H} s => by
        obtain ⟨S, rs, s⟩ := s
        obtain ⟨r, g1, g2, g3, g4⟩ := s.get q1
        obtain ⟨v0, e1, own⟩ := (s.good.slot k r g1).1.own (g2 ▸ q)
        cases hF : r.F with
        | nil =>
          rw [hF] at own
          cases own
        | cons a F =>
          rw [hF] at own
          cases own with
          | lst z r' => exact ⟨_, S, _, _, by rw [g3, e1], z, r'⟩
      obtain ⟨a, S, vs, F, g1, g2, g3⟩ := hσ h1
      refine ⟨.ref a, g1, ki _ ρ σ H _ _ h1.rdAll hw fun t iv H2 h3 sm x1 => ?_⟩
      cases t <;> first | exact h3.elim | skip
      rename_i z
      simp only at h3
      cases qz : ixN us.length z with
      | none => simp only [qz] at h3
      | some m =>
        simp only [qz] at h3
        cases qo : us[m]? with
        | none => simp only [qo] at h3
        | some o =>
          simp only [qo] at h3
          cases o <;> first | exact h3.elim | skip
          rename_i ts
          obtain ⟨hne, hrl, hnx⟩ := h3
          have s2 := h1.same sm
          obtain ⟨a', S', vs', F', c1, c2, c3⟩ := hσ s2
          rw [g1] at c1
          cases c1
          obtain ⟨v1, e1⟩ := c3.get qo
          refine .inl ⟨a, vs', z, v1, rfl, shr_int x1, SqS.sq (S := fun _ => True) ⟨c2, trivial⟩, by unfold atI; rw [← Owns.length c3, qz]; exact e1, ?_⟩
          exact hl.nx _ _ _ hnx (s2.mkAl q1 q g1 (.lst c2 e1 qo .nil) hrl hne)
  · exact hw.elim
end
end TL
set_option Elab.async false
set_option linter.all false
set_option maxRecDepth 100000
namespace TL
open PySem PySem.Spec PyProof.Rows L2
/-! ### a loop over a list that a slot owns, its items named and changed -/
def Ent.isIo : Ent → Bool
  | .io _ _ => true
  | _ => false
def lockE : Ent → Ent
  | .ow n t => .io n t
  | e => e
def openE : Ent → Ent
  | .io n t => .ow n t
  | e => e
def lockS (j : Nat) (ρ : List Ent) : List Ent := match ρ[j]? with
  | some e => ρ.set j (lockE e)
  | none => ρ
def openS (j : Nat) (ρ : List Ent) : List Ent := match ρ[j]? with
  | some e => ρ.set j (openE e)
  | none => ρ
section
variable {K : PySem.W.Frag} {f : Fm} {S S' : Addr → Prop} {H H' : Hp} {τ τ' ms : List Root} {ρ ρ0 : List Ent} {σ σ0 σ' : St}
/-- the kind of an owned slot changed -/
theorem StaW.kind {rs : List Root} {v0' : St} {j : Nat} {e e' : Ent} (s : StaW K f τ ρ σ H S rs) (he : ρ[j]? = some e) (ho : e'.own = e.own) (hn : e.own ≠ none) (hio : ∀ (i : Nat) n t, (ρ.set j e')[i]? = some (.io n t) → σ[i]? = v0'[i]?) :
    ∃ rs', StaW K { f with v0 := v0' } τ (ρ.set j e') σ H S rs' := by
  obtain ⟨r, g1, g2, g3, g4⟩ := s.get he
  have jl : j < rs.length := (List.getElem?_eq_some_iff.mp g4).1
  have al' : ∀ j i t, e' ≠ .al j i t := fun j i t z => by rw [z] at ho; exact hn ho.symm
  have slot' : ∀ {o F}, SlotR K H S e o F → SlotR K H S e' o F := fun {o F} z => by
    cases e <;> first | exact absurd rfl hn | skip
    all_goals (cases e' <;> first | (cases ho; exact z) | cases ho)
  refine ⟨rs.set j ⟨e', r.o, r.F⟩, ?_, ?_, ?_, fun k l i t z => ?_, hio, s.tm⟩
  · rw [List.map_set, s.e]
  · rw [List.map_set, s.o]
    exact set_self g3
  · have G := s.good
    have get : ∀ {m : Nat} {q : Root}, (rs.set j ⟨e', r.o, r.F⟩ ++ τ)[m]? = some q → ∃ q0 : Root, (rs ++ τ)[m]? = some q0 ∧ q.F = q0.F ∧ q.o = q0.o ∧ (q.e = q0.e ∨ (q0.e = e ∧ q.e = e')) := fun {m q} z => by
      rw [← List.set_append_left _ _ jl] at z
      by_cases hm : m = j
      · subst hm
        rw [List.getElem?_set_self (by rw [List.length_append]; omega)] at z
        have z := Option.some.inj z
        subst z
        exact ⟨r, g1, rfl, rfl, .inr ⟨g2, rfl⟩⟩
      · rw [List.getElem?_set_ne (fun y => hm y.symm)] at z
        exact ⟨q, z, rfl, rfl, .inl rfl⟩
    exact {
      slot := fun m q z => by
        obtain ⟨q0, h1, h2, h3, h4⟩ := get z
        obtain ⟨a, b, c⟩ := G.slot m q0 h1
        rw [h2, h3]
        refine ⟨?_, b, c⟩
        rcases h4 with h4 | ⟨h4, h5⟩
        · rw [h4]; exact a
        · rw [h5]; rw [h4] at a; exact slot' a
      dj := fun m l q q' z1 z2 ne a ha hb => by
        obtain ⟨q0, h1, h2, _⟩ := get z1
        obtain ⟨q1, h3, h4, _⟩ := get z2
        rw [h2] at ha
        rw [h4] at hb
        exact G.dj m l q0 q1 h1 h3 ne a ha hb
      trk := G.trk
      fr := G.fr
      src := G.src }
  · by_cases hk : k = j
    · subst hk
      rw [List.getElem?_set_self (List.getElem?_eq_some_iff.mp he).1] at z
      exact absurd (Option.some.inj z) (al' _ _ _)
    · rw [List.getElem?_set_ne (fun y => hk y.symm)] at z
      obtain ⟨r1, n, U, v0, v, Fi, a1, a2, a3, a4, a5, a6, a7⟩ := (s.al k l i t z).ex
      by_cases hl : l = j
      · subst hl
        rw [g4] at a1
        cases a1
        exact ⟨⟨⟨e', r.o, r.F⟩, n, U, v0, v, Fi, List.getElem?_set_self jl, by rw [g2] at a2; exact ho.trans a2, a3, a4, a5, a6, a7⟩⟩
      · exact ⟨⟨r1, n, U, v0, v, Fi, by rw [List.getElem?_set_ne (fun y => hl y.symm)]; exact a1, a2, a3, a4, a5, a6, a7⟩⟩
theorem Sta.lockS {j : Nat} {e : Ent} (s : Sta K f τ ρ σ H) (he : ρ[j]? = some e) (hn : e.own ≠ none) : Sta K { f with v0 := σ } τ (TL.lockS j ρ) σ H := by
  obtain ⟨S, rs, s⟩ := s
  unfold TL.lockS
  rw [he]
  obtain ⟨rs', s'⟩ := s.kind (e' := lockE e) (v0' := σ) he (by cases e <;> rfl) hn (fun _ _ _ _ => rfl)
  exact ⟨S, rs', s'⟩
theorem Sta.openS {j : Nat} {e : Ent} (s : Sta K { f with v0 := σ0 } τ ρ σ H) (s0 : ∀ (i : Nat) n t, ρ0[i]? = some (.io n t) → σ0[i]? = f.v0[i]?) (he : ρ[j]? = some e) (hn : e.own ≠ none) (hio : ∀ i, i ≠ j → (ρ[i]?.map Ent.isIo) = (ρ0[i]?.map Ent.isIo)) :
    Sta K f τ (TL.openS j ρ) σ H := by
  obtain ⟨S, rs, s⟩ := s
  unfold TL.openS
  rw [he]
  have jl := (List.getElem?_eq_some_iff.mp he).1
  obtain ⟨rs', s'⟩ := s.kind (e' := openE e) (v0' := f.v0) he (by cases e <;> rfl) hn (fun i n t z => by
    by_cases hi : i = j
    · subst hi
      rw [List.getElem?_set_self jl] at z
      cases e <;> cases z
    · rw [List.getElem?_set_ne (fun y => hi y.symm)] at z
      have h1 := s.io i n t z
      have h2 := hio i hi
      rw [z] at h2
      cases q : ρ0[i]? with
      | none => rw [q] at h2; cases h2
      | some e0 =>
        rw [q] at h2
        have h2 : true = e0.isIo := Option.some.inj h2
        cases e0 <;> first | cases h2 | skip
        rw [← s0 i _ _ q]
        exact h1)
  exact ⟨S, rs', s'⟩
end
section
variable {X : Cx} {e : Expr} {pos p p2 : Pos} {u : TEnds → List Ent → Prop} {body : List Stmt}
def itemS (k j n i : Nat) (t : T) (ρ : List Ent) (R : List Ent → Prop) : Prop := k ≠ j ∧ k < ρ.length ∧ match t with
  | .lst ts => (match n with
    | m + 2 => R (setE ρ k (.al j i (.lst ts)))
    | _ => R (setE ρ k (.ow 0 (.lst ts))))
  | t => t.flat = true ∧ R (setE ρ k (.ow 0 t))
/-- the loop's own view closed -/
def opn (j : Nat) (ρ0 : List Ent) (R : List Ent → Prop) : List Ent → Prop := fun ρ => (ρ[j]?.map Ent.isIo = some true) ∧ (ρ.map Ent.isIo).set j false = (ρ0.map Ent.isIo).set j false ∧ R (match ρ0[j]? with
  | some (.ow _ _) => openS j ρ
  | _ => ρ)
def uForSl (j k : Nat) (u : TEnds → List Ent → Prop) : TEnds → List Ent → Prop := fun De ρ => ∃ (len : Nat) (I : Nat → List Ent → Prop), I 0 (lockS j ρ) ∧
  (∀ i ρ', i ≤ len → I i ρ' → ∃ n us, ρ'[j]? = some (.io (n + 1) (.lst us)) ∧ us.length = len ∧ ∀ t, us[i]? = some t → itemS k j (n + 1) i t ρ' fun ρ2 => u { nx := I (i + 1), ct := I (i + 1), bk := opn j ρ De.nx, rt := fun _ _ _ => False } ρ2) ∧
  ∀ ρ', I len ρ' → opn j ρ De.nx ρ'
theorem isIo_own {e : Ent} (h : e.isIo = true) : e.own ≠ none := by
  cases e with
  | io n t => exact fun z => by cases z
  | ow n t => cases h
  | no => cases h
  | ro _ => cases h
  | al _ _ _ => cases h
theorem opn_ok {K : PySem.W.Frag} {f : Fm} {τ : List Root} {ρ ρ0 : List Ent} {σ σ0 : St} {H H0 : Hp} {j : Nat} {R : List Ent → Prop} (hown : (ρ0[j]?.bind Ent.own).isSome = true) (s0 : Sta K f τ ρ0 σ0 H0) (h : opn j ρ0 R ρ) (s : Sta K { f with v0 := σ0 } τ ρ σ H) : ∃ ρ', R ρ' ∧ Sta K f τ ρ' σ H := by
  obtain ⟨h1, h2, h3⟩ := h
  obtain ⟨S0, rs0, s0⟩ := s0
  cases q : ρ[j]? with
  | none => rw [q] at h1; cases h1
  | some e =>
    rw [q] at h1
    have h1 : e.isIo = true := Option.some.inj h1
    have hn : e.own ≠ none := isIo_own h1
    have hio : ∀ i, i ≠ j → (ρ[i]?.map Ent.isIo) = (ρ0[i]?.map Ent.isIo) := fun i hi => by
      have z := congrArg (fun l => l[i]?) h2
      simp only [List.getElem?_set_ne (fun y => hi y.symm : j ≠ i), List.getElem?_map] at z
      exact z
    cases q0 : ρ0[j]? with
    | none =>
      exfalso
      have z := congrArg List.length h2
      rw [List.length_set, List.length_set, List.length_map, List.length_map] at z
      have := List.getElem?_eq_none_iff.mp q0
      have := (List.getElem?_eq_some_iff.mp q).1
      omega
    | some e0 =>
      rw [q0] at h3
      by_cases h4 : ∃ n t, e0 = .ow n t
      · obtain ⟨n, t, rfl⟩ := h4
        exact ⟨_, h3, s.openS s0.io q hn hio⟩
      · -- the slot was a parameter already
        have h3' : R ρ := by
          cases e0 <;> first | exact absurd ⟨_, _, rfl⟩ h4 | exact h3
        refine ⟨ρ, h3', ?_⟩
        by_cases h5 : ∃ n t, e0 = .io n t
        · obtain ⟨n, t, rfl⟩ := h5
          obtain ⟨S, rs, s⟩ := s
          refine ⟨S, rs, s.e, s.o, ⟨s.good.slot, s.good.dj, s.good.trk, s.good.fr, s.good.src⟩, s.al, fun i m u z => ?_, s.tm⟩
          have h6 := s.io i m u z
          by_cases hi : i = j
          · subst hi
            rw [h6]
            exact s0.io i n t q0
          · have h2 := hio i hi
            rw [z] at h2
            cases q1 : ρ0[i]? with
            | none => rw [q1] at h2; cases h2
            | some e1 =>
              rw [q1] at h2
              have h2 : true = e1.isIo := Option.some.inj h2
              cases e1 <;> first | cases h2 | skip
              rw [h6]
              exact s0.io i _ _ q1
        · exfalso
          rw [q0] at hown
          have hown : e0.own.isSome = true := hown
          cases e0 with
          | ow n t => exact h4 ⟨_, _, rfl⟩
          | io n t => exact h5 ⟨_, _, rfl⟩
          | no => cases hown
          | ro _ => cases hown
          | al _ _ _ => cases hown
def uForSl' (j k : Nat) (u : TEnds → List Ent → Prop) : TEnds → List Ent → Prop := fun De ρ => (ρ[j]?.bind Ent.own).isSome = true ∧ uForSl j k u De ρ
theorem ts_forSl (j k : Nat) {x y : Str} (hp : PassesOwn (model X.prog X.w) X.A X.env X.xe) (hc : X.calm = true) (hNd : X.N.Nodup) (hk : X.N[k]? = some y) (hy : Loc X.env.scope y) (hb : TSs X body u) (hN : X.N[j]? = some x := by rfl) (hv : Vis X.env.scope x := by first | exact Or.inl rfl | exact Or.inr (Or.inl rfl) | exact Or.inr (Or.inr rfl)) (hd : (x == ("__debug__" : Str)) = false := by decide)
    (hcd : (x == ("__classdict__" : Str)) = false := by decide) (hf : X.fn y = true ∨ X.env.scope.names.lookup y = some .local := by first | exact .inl rfl | exact .inr rfl | assumption) (hs : ∀ z, foldedSetIterable (.Name x p) X.env z = pure z := by intro _; rfl) : TS1 X (.For (.Name y p2) (.Name x p) body [] pos) (uForSl' j k u) := by
  obtain ⟨tb, pb, kb⟩ := hb.ok
  refine ⟨⟨_, ps_for hp hc (pi_list (pe_var hN hv hd hcd)) (pg_name hNd hk hy hf) pb hs, fun f τ ρ σ H De D h1 hl hw => ?_⟩⟩
  obtain ⟨hown, len, I, i0, hI, hend⟩ := hw
  have key : ∀ {f : Fm} {ρ : List Ent} {σ : St} {H : Hp} {n : Nat} {us : List T}, Sta X.K f τ ρ σ H → ρ[j]? = some (.io (n + 1) (.lst us)) → σ[j]? = f.v0[j]? ∧ ∃ (a : Addr) (S : Addr → Prop) (rs : List Root) (vs : List V) (F : List Addr), StaW X.K f τ ρ σ H S rs ∧ σ[j]? = some (some (.ref a)) ∧ H a = some (.lst vs) ∧ Owns X.K H S n us vs F := fun {f ρ σ H n us} s he => by
    obtain ⟨S, rs, s⟩ := s
    refine ⟨s.io j _ _ he, ?_⟩
    obtain ⟨r, g1, g2, g3, g4⟩ := s.get he
    obtain ⟨v0, e1, own⟩ := (s.good.slot j r g1).1.own (n := n + 1) (t := .lst us) (by rw [g2]; rfl)
    cases hF : r.F with
    | nil => rw [hF] at own; cases own
    | cons a F =>
      rw [hF] at own
      cases own with
      | lst z r' => exact ⟨_, S, rs, _, _, s, by rw [g3, e1], z, r'⟩
  obtain ⟨e0, he0, ho0⟩ : ∃ e0, ρ[j]? = some e0 ∧ e0.own ≠ none := by
    cases q : ρ[j]? with
    | none => rw [q] at hown; cases hown
    | some e0 => exact ⟨e0, rfl, fun z => by rw [q] at hown; have hown : e0.own.isSome = true := hown; rw [z] at hown; cases hown⟩
  have sl := h1.lockS he0 ho0
  obtain ⟨n0, us0, b1, _, _⟩ := hI 0 _ (Nat.zero_le _) i0
  obtain ⟨_, a, S0, rs0, vs0, F0, _, c1, c2, c3⟩ := key sl b1
  refine ⟨.ref a, c1, a, rfl, ⟨vs0, SqS.sq (S := fun _ => True) ⟨c2, trivial⟩⟩, ?_⟩
  have wk : Walk (Itl X.K a) len (fun H => ∃ xs, xs.length = len ∧ SqL X.K H a xs) (fun i H x H' => H' = H ∧ ∀ xs, SqL X.K H a xs → xs[i]? = some x) :=
    ⟨fun i _ hi h => let ⟨xs, h1, h2⟩ := h; ⟨xs, xs[i]'(by omega), h2, by simp [show i < xs.length by omega]⟩, fun _ h => let ⟨xs, h1, h2⟩ := h; ⟨xs, h2, by omega⟩, fun _ _ _ _ _ _ y => y⟩
  refine for_it wk (fun i σ' H => ∃ ρ', i ≤ len ∧ I i ρ' ∧ Sta X.K { f with v0 := σ } τ ρ' σ' H) ⟨_, Nat.zero_le _, i0, sl⟩ (fun i σ' H' _ h => ?_) (fun i x σ' H' H2 hi h y => ?_) fun σ' H' h => ?_
  · obtain ⟨ρ', hi, im, s⟩ := h
    obtain ⟨n, us, d1, d2, _⟩ := hI i ρ' hi im
    obtain ⟨d3, a', S, rs, vs, F, _, d4, d5, d6⟩ := key s d1
    rw [d3] at d4
    have d4 : σ[j]? = some (some (.ref a')) := d4
    rw [c1] at d4
    cases d4
    exact ⟨vs, by rw [← Owns.length d6, d2], SqS.sq (S := fun _ => True) ⟨d5, trivial⟩⟩
  · obtain ⟨ρ', _, im, s⟩ := h
    obtain ⟨rfl, y⟩ := y
    obtain ⟨n, us, d1, d2, d3⟩ := hI i ρ' (Nat.le_of_lt hi) im
    obtain ⟨d7, a', S, rs, vs, F, sw, d4, d5, d6⟩ := key s d1
    have d8 := d4
    rw [d7] at d8
    have d8 : σ[j]? = some (some (.ref a')) := d8
    rw [c1] at d8
    cases d8
    have hx := y vs (SqS.sq (S := fun _ => True) ⟨d5, trivial⟩)
    have ht : us[i]? = some (us[i]'(by omega)) := List.getElem?_eq_getElem (by omega)
    generalize us[i]'(by omega) = t at ht
    obtain ⟨hkj, hkl, hit⟩ := d3 t ht
    have go : ∀ {ρ2 : List Ent}, Sta X.K { f with v0 := σ } τ ρ2 (σ'.set k (some x)) H2 → u { nx := I (i + 1), ct := I (i + 1), bk := opn j ρ De.nx, rt := fun _ _ _ => False } ρ2 → tb { nx := fun σ' H => ∃ ρ', i + 1 ≤ len ∧ I (i + 1) ρ' ∧ Sta X.K { f with v0 := σ } τ ρ' σ' H, rt := D.rt, bk := D.nx, ct := fun σ' H => ∃ ρ', i + 1 ≤ len ∧ I (i + 1) ρ' ∧ Sta X.K { f with v0 := σ } τ ρ' σ' H } (σ'.set k (some x)) H2 := fun {ρ2} s2 h2 => by
      refine kb { f with v0 := σ } τ ρ2 _ H2 _ _ s2 ⟨?_, ?_, ?_, ?_⟩ h2
      · exact fun ρ3 σ3 H3 h s => ⟨ρ3, hi, h, s⟩
      · exact fun n t ρ σ v F H h s => h.elim
      · exact fun ρ3 σ3 H3 h s => by
          obtain ⟨ρ4, h4, s4⟩ := opn_ok hown h1 h s
          exact hl.nx ρ4 _ _ h4 s4
      · exact fun ρ3 σ3 H3 h s => ⟨ρ3, hi, h, s⟩
    -- the item's own record
    obtain ⟨F1, Fi, F2, rfl, oi, _⟩ := d6.split ht hx
    have shared : (n = 0 ∨ t.flat = true) → Sta X.K { f with v0 := σ } τ (setE ρ' k (.ow 0 t)) (σ'.set k (some x)) H2 := fun hz => by
      refine ⟨S, _, (sw.pushS (t := t) (v := x) ?_).setV hkl⟩
      rcases hz with rfl | hz
      · have z := oi.zero
        subst z
        exact oi
      · exact (oi.flat0 hz).2 0 S
    cases t with
    | lst ts =>
      cases n with
      | zero => exact go (shared (.inl rfl)) hit
      | succ n =>
        exact go (Sta.mkAl ⟨S, rs, sw⟩ d1 rfl d4 (.lst d5 hx ht .nil) hkl fun z => hkj z.symm) hit
    | _ => exact go (shared (.inr hit.1)) hit.2
  · obtain ⟨ρ', _, im, s⟩ := h
    obtain ⟨ρ4, h4, s4⟩ := opn_ok hown h1 (hend ρ' im) s
    exact hl.nx ρ4 _ _ h4 s4
/-- x.append(y), y now a name for x's last -/
def uApMv (k i : Nat) : TEnds → List Ent → Prop := fun De ρ => match ρ[k]?, ρ[i]? with
  | some (.ow (d + 2) (.lst ts)), some (.ow (m + 1) (.lst us)) => d ≤ m ∧ k ≠ i ∧ ts.length < 1000000 ∧ De.nx (setE (plSet k (setE ρ i .no) (ts ++ [.lst us])) i (.al k ts.length (.lst us)))
  | some (.io (d + 2) (.lst ts)), some (.ow (m + 1) (.lst us)) => d ≤ m ∧ k ≠ i ∧ ts.length < 1000000 ∧ De.nx (setE (plSet k (setE ρ i .no) (ts ++ [.lst us])) i (.al k ts.length (.lst us)))
  | _, _ => False
theorem setE_get_other {ρ : List Ent} {i k : Nat} {e e' : Ent} (h : ρ[k]? = some e) (hn : e.own ≠ none) (hne : k ≠ i) : (setE ρ i e')[k]? = some e := by
  unfold setE
  rw [List.getElem?_set_ne (fun z => hne z.symm)]
  unfold killA
  rw [List.getElem?_map, h]
  show some (noAl i e) = some e
  rcases noAl_cases i e with z | ⟨_, _, z, _⟩
  · rw [z]
  · rw [z] at hn; exact absurd rfl hn
theorem Sta.appMv {K : PySem.W.Frag} {f : Fm} {τ : List Root} {ρ : List Ent} {σ : St} {H : Hp} {k i : Nat} {e : Ent} {d m : Nat} {ts us : List T} (h1 : Sta K f τ ρ σ H) (he : ρ[k]? = some e) (ho : e.own = some (d + 2, .lst ts)) (hei : ρ[i]? = some (.ow (m + 1) (.lst us))) (hdm : d ≤ m) (hne : k ≠ i) :
    ∃ (a : Addr) (v : V) (vs : List V), σ[k]? = some (some (.ref a)) ∧ σ[i]? = some (some v) ∧ H a = some (.lst vs) ∧ vs.length = ts.length ∧ Sta K f τ (setE (plSet k (setE ρ i .no) (ts ++ [.lst us])) i (.al k ts.length (.lst us))) σ (upd H a (.lst (vs ++ [v]))) := by
  obtain ⟨S, rs, s⟩ := h1
  obtain ⟨v, F, rs', g1, s1⟩ := s.moveV hei
  have s1' : Sta K f (τ ++ [tmp (m + 1) (.lst us) v F]) (setE ρ i .no) σ H := ⟨S, rs', s1⟩
  have hk1 : (setE ρ i .no)[k]? = some e := setE_get_other he (by rw [ho]; exact fun z => by cases z) hne
  have hpl : Plc (setE ρ i .no) k = some (k, [], ts, d + 1) := by
    unfold Plc
    rw [hk1]
    cases e with
    | ow n t => cases ho; rfl
    | io n t => cases ho; rfl
    | no => cases ho
    | ro _ => cases ho
    | al _ _ _ => cases ho
  obtain ⟨a, vs, b1, b2, b3, _, b5⟩ := s1'.plMut hpl (.inl (by omega))
  refine ⟨a, v, vs, b1, g1, b2, b3, ?_⟩
  have hps : plSet k (setE ρ i .no) (ts ++ [.lst us]) = (TL.killJ [k] (setE ρ i .no)).set k (e.put (.lst (ts ++ [.lst us]))) := by
    rw [plSet_var (fun j i t y => by rw [hk1] at y; cases y; cases ho), putAt_eq hk1 ho]
    rfl
  have kl : k < (setE ρ i .no).length := (List.getElem?_eq_some_iff.mp hk1).1
  have il : i < ρ.length := (List.getElem?_eq_some_iff.mp hei).1
  have w : Way (upd H a (.lst (vs ++ [v]))) (.lst (ts ++ [.lst us])) (.ref a) [ts.length] (.lst us) v :=
    .lst upd_same (by rw [← b3]; exact getElem?_last) getElem?_last .nil
  have z := b5.mkAl (j := k) (i := ts.length) (k := i) (n := d) (ts := us) (by rw [hps, List.getElem?_set_self (by rw [killJ_len]; exact kl)]) (put_own ho _) b1 w (by rw [hps, List.length_set, killJ_len, setE_len]; exact il) hne
  rw [set_self g1] at z
  exact z
theorem ts_appMv (k i : Nat) {x y : Str} {apos cpos : Pos} (hN : X.N[k]? = some x := by rfl) (hv : Vis X.env.scope x := by first | exact Or.inl rfl | exact Or.inr (Or.inl rfl) | exact Or.inr (Or.inr rfl)) (hd : (x == ("__debug__" : Str)) = false := by decide)
    (hcd : (x == ("__classdict__" : Str)) = false := by decide) (hN2 : X.N[i]? = some y := by rfl) (hv2 : Vis X.env.scope y := by first | exact Or.inl rfl | exact Or.inr (Or.inl rfl) | exact Or.inr (Or.inr rfl)) (hd2 : (y == ("__debug__" : Str)) = false := by decide)
    (hcd2 : (y == ("__classdict__" : Str)) = false := by decide) (hsw : swapsWith (.Call (.Attribute (.Name x p) "append" apos) [.Name y p2] [] cpos) none pos.line X.env = pure false := by rfl)
    (hbase : attributeBase (.Name x p) "append" X.env (eval (.Name x p) X.env) = eval (.Name x p) X.env := by rfl)
    (hfew : ((backTo cpos (starEach [.Name y p2] X.env)).all (fun x => !x.1) && (backToKw cpos (keywordEach [] X.env)).all (fun x => x.1.isSome)
      && decide ([Expr.Name y p2].length + ([] : List Keyword).length + (if ([] : List Keyword).isEmpty then 0 else 1) < 30)) = true := by rfl)
    (hline : (apos.endLine == cpos.line) = true := by rfl) (hs : starEach [.Name y p2] X.env = (false, eval (.Name y p2) X.env) :: starEach [] X.env := by rfl) (hplain : (backTo cpos (starEach [] X.env)).any (·.1) = false := by rfl) :
    TS1 X (.Expr (.Call (.Attribute (.Name x p) "append" apos) [.Name y p2] [] cpos) pos) (uApMv k i) := by
  refine ⟨⟨_, ps_expr (pe_bm PySem.F.plainAttrs_list PySem.F.slot_list_append PySem.F.type_list_append mt_append (pe_var hN hv hd hcd) (pa_cons (pe_var hN2 hv2 hd2 hcd2) pa_nil hs) hbase hfew hline hs hplain) hsw, fun f τ ρ σ H De D h1 hl hw => ?_⟩⟩
  unfold uApMv at hw
  split at hw
  · rename_i d ts m us q1 q2
    obtain ⟨w1, w2, w3, w4⟩ := hw
    obtain ⟨a, v, vs, b1, b2, b3, b4, b5⟩ := h1.appMv q1 rfl q2 w1 w2
    exact ⟨.ref a, b1, .inl ⟨rfl, vs, SqS.sq (S := fun _ => True) ⟨b3, trivial⟩⟩, v, b2, a, vs, v, rfl, rfl, b3, by rw [b4]; exact Nat.lt_of_lt_of_le w3 million, hl.nx _ σ _ w4 b5⟩
  · rename_i d ts m us q1 q2
    obtain ⟨w1, w2, w3, w4⟩ := hw
    obtain ⟨a, v, vs, b1, b2, b3, b4, b5⟩ := h1.appMv q1 rfl q2 w1 w2
    exact ⟨.ref a, b1, .inl ⟨rfl, vs, SqS.sq (S := fun _ => True) ⟨b3, trivial⟩⟩, v, b2, a, vs, v, rfl, rfl, b3, by rw [b4]; exact Nat.lt_of_lt_of_le w3 million, hl.nx _ σ _ w4 b5⟩
  · exact hw.elim
end
end TL
set_option Elab.async false
set_option linter.all false
set_option maxRecDepth 100000
namespace TL
open PySem PySem.Spec PyProof.Rows L2
structure GF (K : PySem.W.Frag) (mg : Str → Option Value) (x : Str) (st : Stmt) (ps : List Str) where
  f : Addr
  d : FuncData
  F : Fun K x x st f d
  b : Binds K d ps []
  g : mg x = some (.ref f)
theorem eqU {k : Nat} {A : Around} (hr : Room k A) : A.units + 64 < cLine := by have := hr.un; omega
section
variable {K : PySem.W.Frag}
/-- texts, numbers, bools told apart -/
theorem opT_neS : OpT K rNe (fun t u R => match t, u with | .str a, .str b => R (.bl (!decide (a = b))) | .int a, .int b => R (.bl (!decide (a = b))) | .bl a, .bl b => R (.bl (!decide (a = b))) | _, _ => False) := by
  intro S H x y t u Q R h1 h2 hg hq
  cases t <;> cases u <;> first | exact hg.elim | skip
  · rw [(shr_bl h1), (shr_bl h2)]
    refine ⟨rfl, hq _ _ _ hg (Same.refl H) ?_⟩
    have e : ∀ a b : Bool, decide (V.bl a = V.bl b) = decide (a = b) := by decide
    rw [e]; exact .bl _
  · rename_i a b
    rw [(shr_int h1), (shr_int h2)]
    refine ⟨rfl, hq _ _ _ hg (Same.refl H) ?_⟩
    have e : decide (V.int a = V.int b) = decide (a = b) := by
      by_cases z : a = b
      · subst z; simp
      · rw [decide_eq_false z, decide_eq_false (fun y => z (V.int.inj y))]
    rw [e]; exact .bl _
  · rename_i a b
    rw [(shr_str h1), (shr_str h2)]
    refine ⟨rfl, hq _ _ _ hg (Same.refl H) ?_⟩
    have e : decide (V.str a = V.str b) = decide (a = b) := by
      by_cases z : a = b
      · subst z; simp
      · rw [decide_eq_false z, decide_eq_false (fun y => z (V.str.inj y))]
    rw [e]; exact .bl _
/-- flat values -/
def T.v1 : T → V
  | .bl b => .bl b
  | .int i => .int i
  | .str s => .str s
  | _ => .non
def T.is1 : T → Bool
  | .bl _ => true
  | .int _ => true
  | .str _ => true
  | .non => true
  | _ => false
theorem shr_v1 {S : Addr → Prop} {H : Hp} {t : T} {v : V} (h : Shr K H S t v) (hf : t.is1 = true) : v = t.v1 := by
  cases t <;> first | exact absurd (show false = true from hf) Bool.false_ne_true | skip
  · exact shr_non h
  · exact shr_bl h
  · exact shr_int h
  · exact shr_str h
theorem shrs_v1 {S : Addr → Prop} {H : Hp} : ∀ {ts : List T} {vs : List V}, Shrs K H S ts vs → ts.all T.is1 = true → vs = ts.map T.v1
  | [], vs, h, _ => by cases h; rfl
  | t :: ts, vs, h, hf => by
    obtain ⟨v, r, rfl, a, b⟩ := h.uncons
    rw [List.all_cons, Bool.and_eq_true] at hf
    rw [shr_v1 a hf.1, shrs_v1 b hf.2]; rfl
theorem flat_v1 {t : T} (hf : t.is1 = true) : flatV t.v1 = true := by cases t <;> first | rfl | exact absurd (show false = true from hf) Bool.false_ne_true
def gIn (neg : Bool) : F2 := fun t u R => match u with
  | .tup us => t.is1 = true ∧ us.all T.is1 = true ∧ R (.bl (if neg then !inV t.v1 (us.map T.v1) else inV t.v1 (us.map T.v1)))
  | .lst us => t.is1 = true ∧ us.all T.is1 = true ∧ R (.bl (if neg then !inV t.v1 (us.map T.v1) else inV t.v1 (us.map T.v1)))
  | _ => False
theorem opT_inB (neg : Bool) : OpT K (rIn K neg) (gIn neg) := by
  intro S H x y t u Q R h1 h2 hg hq
  have fl : ∀ us : List T, us.all T.is1 = true → (us.map T.v1).all flatV = true := fun us h => by
    rw [List.all_map]
    refine List.all_eq_true.mpr fun z hz => flat_v1 (List.all_eq_true.mp h z hz)
  cases u <;> first | exact hg.elim | skip
  · obtain ⟨p, vs, rfl, q, r⟩ := shr_tup h2
    obtain ⟨g1, g2, g3⟩ := hg
    rw [shr_v1 h1 g1]
    rw [shrs_v1 r g2] at q
    exact ⟨p, _, rfl, .inr q, flat_v1 g1, fl _ g2, hq _ _ _ g3 (Same.refl H) (.bl _)⟩
  · obtain ⟨p, vs, rfl, q, r⟩ := shr_lst h2
    obtain ⟨g1, g2, g3⟩ := hg
    rw [shr_v1 h1 g1]
    rw [shrs_v1 r g2] at q
    exact ⟨p, _, rfl, .inl q.sq, flat_v1 g1, fl _ g2, hq _ _ _ g3 (Same.refl H) (.bl _)⟩
theorem opT_in : OpT K (rIn K false) (gIn false) := opT_inB false
theorem opT_notIn : OpT K (rIn K true) (gIn true) := opT_inB true
theorem shrs_rev {S : Addr → Prop} {H : Hp} : ∀ {ts : List T} {vs : List V}, Shrs K H S ts vs → Shrs K H S ts.reverse vs.reverse
  | [], vs, h => by cases h; exact .nil
  | t :: ts, vs, h => by
    obtain ⟨v, r, rfl, a, b⟩ := h.uncons
    rw [List.reverse_cons, List.reverse_cons]
    exact (shrs_rev b).append (Shrs.cons a .nil)
/-- a constant tuple among the globals -/
theorem kTup {a : Addr} {ts : List T} {o : Obj} {its : Array Value} {n : Nat} (hl : K.lookup a = some o) (hc : o.cls = .type "tuple") (hd : o.data = .seq its n) (hz : its.size ≤ sizeLine) (hv : Vals (ts.map T.v1) its.toList) (hf : ts.all T.is1 = true) (H : Hp) (S : Addr → Prop) : Shr K H S (.tup ts) (.ref a) := by
  refine .tup0 (vs := ts.map T.v1) (.inr ⟨o, its, n, hl, hc, hd, hz, hv⟩) ?_
  clear hv
  induction ts with
  | nil => exact .nil
  | cons t ts ih =>
    rw [List.all_cons, Bool.and_eq_true] at hf
    refine Shrs.cons ?_ (ih hf.2)
    cases t <;> first | exact absurd (show false = true from hf.1) Bool.false_ne_true | skip
    · exact .non
    · exact .bl _
    · exact .int _
    · exact .str _
end
section
variable {X : Cx} {e a b ie : Expr} {pos p p1 p2 p3 tpos : Pos} {w wa wi : List Ent → (T → Prop) → Prop} {v vi : List Ent → (Nat → T → List Ent → Prop) → Prop}
def wRev (w : List Ent → (T → Prop) → Prop) : List Ent → (T → Prop) → Prop := fun ρ R => w ρ fun t => match t with | .lst ts => R (.lst ts.reverse) | _ => False
theorem tp_rev {k : Nat} (ha : TPE X e w) : TPE X (.Subscript e (.Slice none none (some (.UnaryOp .USub (.Constant (.int 1) k p1) p2)) p3) pos) (wRev w) := by
  obtain ⟨ta, pa, ka⟩ := ha.ok
  refine ⟨⟨_, pe_revL pa, fun S ρ σ H Q R hr hw hq => ?_⟩⟩
  refine ka S ρ σ H _ _ hr hw fun t v H1 h1 s1 x1 => ?_
  cases t <;> first | exact h1.elim | skip
  obtain ⟨p0, vs, rfl, q, r⟩ := shr_lst x1
  have hs : ∀ {p : Addr} {o : HO}, H1 p = none → Same H1 (upd H1 p o) := fun hp b o e => by rw [upd_ne (ne_of_none e hp)]; exact e
  refine ⟨p0, vs, rfl, q.sq, fun p hp => hq _ _ _ h1 (s1.trans (hs hp)) ?_⟩
  exact .sls ⟨upd_same, .inr (s1.free hp)⟩ (Owns.keep (fun _ z => z) (shrs_rev r) (.same (hs hp)))
theorem tp_globT {x : Str} {ts : List T} {c : Addr} (hg : Gl X x) (hm : X.mg x = some (.ref c)) (hs : ∀ H S, Shr X.K H S (.tup ts) (.ref c)) (hd : (x == ("__debug__" : Str)) = false := by decide) : TPE X (.Name x pos) (wC (.tup ts)) :=
  tp_c (v := .ref c) (pe_glob hg hm rfl hd) fun S H => hs H S
def uStV (k : Nat) (v : List Ent → (Nat → T → List Ent → Prop) → Prop) (vi : List Ent → (Nat → T → List Ent → Prop) → Prop) : TEnds → List Ent → Prop := fun De ρ => v ρ fun m t2 ρ1 => (Plc ρ1 k).isSome = true ∧ vi ρ1 fun _ ti ρ2 => match Plc ρ2 k with
  | some (_, _, ts, d) => match ti with
    | .int z => match ixN ts.length z with
      | some q => fit d m t2 ∧ De.nx (plSet k ρ2 (ts.set q t2))
      | none => False
    | _ => False
  | none => False
/-- x[i] = e, the index may change things -/
theorem ts_storeV (k : Nat) {x : Str} (he : TVE X e v) (hi : TVE X ie vi) (hN : X.N[k]? = some x := by rfl) (hv : Vis X.env.scope x := by first | exact Or.inl rfl | exact Or.inr (Or.inl rfl) | exact Or.inr (Or.inr rfl)) (hd : (x == ("__debug__" : Str)) = false := by decide)
    (hcd : (x == ("__classdict__" : Str)) = false := by decide) (hs : swapsWithSole [.Subscript (.Name x p) ie tpos] e pos.line X.env = pure false := by rfl) (hw : swappedStores [.Subscript (.Name x p) ie tpos] e X.env = pure none := by rfl)
    (h1 : (assignEach [.Subscript (.Name x p) ie tpos] X.env).map (·.2) = [assign (.Subscript (.Name x p) ie tpos) X.env] := by rfl)
    (ha : ∀ v, assign (.Subscript (.Name x p) ie tpos) X.env v = (do
      let ov ← holding [v] (eval (.Name x p) X.env)
      let iv ← holding [v, ov] (eval ie X.env)
      standAt tpos
      holding [v, ov, iv] (setItem ov iv v)
      release [v, ov, iv] []) := by intro _; rfl) : TS1 X (.Assign [.Subscript (.Name x p) ie tpos] e pos) (uStV k v vi) := by
  obtain ⟨te, pe, ke⟩ := he.ok
  obtain ⟨ti, pi, ki⟩ := hi.ok
  refine ⟨⟨_, ps_asg pe (pg_sub (pe_var hN hv hd hcd) pi set_list ha) hs hw h1, fun f τ ρ σ H De D h1 hl hw => ?_⟩⟩
  refine ke f τ ρ σ H _ _ h1 hw fun m t2 ρ1 v2 F2 H1 h2 s1 => ?_
  obtain ⟨h2, h3⟩ := h2
  cases q : Plc ρ1 k with
  | none => rw [q] at h2; cases h2
  | some x =>
    obtain ⟨j, p, ts, d⟩ := x
    obtain ⟨a, e, U, v0, g1, _⟩ := s1.plc q
    refine ⟨.ref a, g1, ki f _ ρ1 σ H1 _ _ s1 h3 fun n3 t ρ2 iv F3 H2 h3 s2 => ?_⟩
    cases q2 : Plc ρ2 k with
    | none => simp only [q2] at h3
    | some y =>
      obtain ⟨j2, p2, ts2, d2⟩ := y
      simp only [q2] at h3
      cases t <;> first | exact h3.elim | skip
      rename_i z
      simp only at h3
      have x1 := shr_int s2.last2
      subst x1
      cases qz : ixN ts2.length z with
      | none => simp only [qz] at h3
      | some y =>
        simp only [qz] at h3
        obtain ⟨a', vs, b1, b2, b3, b4, _⟩ := s2.pop.plMut q2 h3.1
        rw [g1] at b1
        cases b1
        exact ⟨a, vs, z, y, rfl, rfl, b2, by rw [b3]; exact qz, hl.nx _ σ _ h3.2 (b4 y (ixN_lt qz))⟩
end
end TL
set_option Elab.async false
set_option linter.all false
set_option maxRecDepth 100000
namespace TL
open PySem PySem.Spec PyProof.Rows L2
/-! ### trees of numbers -/
abbrev Li (xs : List Int) : T := .lst (xs.map T.int)
abbrev Lm (xss : List (List Int)) : T := .lst (xss.map fun xs => Li xs)
theorem mapint_get {xs : List Int} {i : Nat} {t : T} : (xs.map T.int)[i]? = some t ↔ ∃ x, xs[i]? = some x ∧ t = .int x := by
  rw [List.getElem?_map]; cases xs[i]? <;> simp [eq_comm]
theorem mapLi_get {xs : List (List Int)} {i : Nat} {t : T} : (xs.map fun xs => Li xs)[i]? = some t ↔ ∃ x, xs[i]? = some x ∧ t = Li x := by
  rw [List.getElem?_map]; cases xs[i]? <;> simp [eq_comm]
theorem flats_ints : ∀ xs : List Int, T.flats (xs.map T.int) = true
  | [] => rfl
  | x :: xs => by
    show T.flatAts (T.int x :: xs.map T.int) 0 = true
    rw [T.flatAts]
    rw [show T.flatAts (xs.map T.int) 0 = true from flats_ints xs]; rfl
theorem flatAt_Li {xs : List Int} {n : Nat} : (Li xs).flatAt (n + 1) = true := by
  rw [T.flatAt]
  refine flatAts_iff.mpr fun t ht => ?_
  obtain ⟨x, _, rfl⟩ := List.mem_map.mp ht
  cases n <;> rfl
theorem flatAt_Lm {xs : List (List Int)} : (Lm xs).flatAt 2 = true := by
  rw [T.flatAt]
  refine flatAts_iff.mpr fun t ht => ?_
  obtain ⟨x, _, rfl⟩ := List.mem_map.mp ht
  exact flatAt_Li
-- fit for ==, at most so deep
mutual
def T.okd : T → Nat → Bool
  | .non, _ => true
  | .bl _, _ => true
  | .int _, _ => true
  | .str s, _ => PyData.strOk s
  | .tup ts, n + 1 => T.okds ts n
  | .lst ts, n + 1 => T.okds ts n
  | _, _ => false
def T.okds : List T → Nat → Bool
  | [], _ => true
  | t :: ts, n => T.okd t n && T.okds ts n
end
mutual
theorem okd_data : ∀ (t : T) (n : Nat), t.okd n = true → t.data = true ∧ t.pd.canLay0 = true ∧ t.pd.depth ≤ n
  | .non, _, _ => ⟨rfl, rfl, Nat.zero_le _⟩
  | .bl _, _, _ => ⟨rfl, rfl, Nat.zero_le _⟩
  | .int _, _, _ => ⟨rfl, rfl, Nat.zero_le _⟩
  | .str s, _, h => ⟨rfl, h, Nat.zero_le _⟩
  | .tup ts, 0, h => by cases h
  | .tup ts, n + 1, h => by
    obtain ⟨a, b, c⟩ := okds_data ts n h
    refine ⟨by rw [T.data]; exact a, by rw [T.pd, PyData.canLay0]; exact b, by rw [T.pd, PyData.depth]; omega⟩
  | .lst ts, 0, h => by cases h
  | .lst ts, n + 1, h => by
    obtain ⟨a, b, c⟩ := okds_data ts n h
    refine ⟨by rw [T.data]; exact a, by rw [T.pd, PyData.canLay0]; exact b, by rw [T.pd, PyData.depth]; omega⟩
  | .dct _ _, 0, h => by cases h
  | .dct _ _, _ + 1, h => by cases h
  | .ins _ _ _, 0, h => by cases h
  | .ins _ _ _, _ + 1, h => by cases h
  | .scr _, 0, h => by cases h
  | .scr _, _ + 1, h => by cases h
theorem okds_data : ∀ (ts : List T) (n : Nat), T.okds ts n = true → T.datas ts = true ∧ PyData.canLayAll0 (T.pds ts) = true ∧ PyData.depthAll (T.pds ts) ≤ n
  | [], _, _ => ⟨rfl, rfl, Nat.zero_le _⟩
  | t :: ts, n, h => by
    rw [T.okds, Bool.and_eq_true] at h
    obtain ⟨a, b, c⟩ := okd_data t n h.1
    obtain ⟨a2, b2, c2⟩ := okds_data ts n h.2
    refine ⟨by rw [T.datas, a, a2]; rfl, by rw [T.pds, PyData.canLayAll0, b, b2]; rfl, by rw [T.pds, PyData.depthAll]; exact Nat.max_le.mpr ⟨c, c2⟩⟩
end
theorem okd_eqok {t : T} {n : Nat} (h : t.okd n = true) (hn : n ≤ 64) : t.eqok = true := by
  obtain ⟨a, b, c⟩ := okd_data t n h
  unfold T.eqok SeqAt.shaped
  rw [a, b, decide_eq_true (by omega)]; rfl
theorem okd_refl {t : T} {n : Nat} (h : t.okd n = true) : t.eqv t = true := by
  obtain ⟨a, b, c⟩ := okd_data t n h
  exact SeqAt.eqv_refl _ b
theorem okds_iff : ∀ {ts : List T} {n : Nat}, T.okds ts n = true ↔ ∀ t ∈ ts, t.okd n = true
  | [], n => by simp [T.okds]
  | t :: ts, n => by rw [T.okds, Bool.and_eq_true, okds_iff]; simp
theorem okd_Li {xs : List Int} {n : Nat} : (Li xs).okd (n + 1) = true := by
  rw [T.okd]
  refine okds_iff.mpr fun t ht => ?_
  obtain ⟨x, _, rfl⟩ := List.mem_map.mp ht
  rfl
theorem okd_Lm {xs : List (List Int)} {n : Nat} : (Lm xs).okd (n + 2) = true := by
  rw [T.okd]
  refine okds_iff.mpr fun t ht => ?_
  obtain ⟨x, _, rfl⟩ := List.mem_map.mp ht
  exact okd_Li
theorem eqvAll_ints : ∀ xs ys : List Int, PyData.eqvAll (T.pds (xs.map T.int)) (T.pds (ys.map T.int)) = decide (xs = ys)
  | [], [] => by simp [T.pds, PyData.eqvAll]
  | [], _ :: _ => by simp [T.pds, PyData.eqvAll]
  | _ :: _, [] => by simp [T.pds, PyData.eqvAll]
  | x :: xs, y :: ys => by
    rw [List.map_cons, List.map_cons, T.pds, T.pds, PyData.eqvAll, eqvAll_ints xs ys]
    rw [T.pd, T.pd, PyData.eqv]
    by_cases h : x = y <;> by_cases h2 : xs = ys <;> simp [h, h2]
theorem eqv_Li (xs ys : List Int) : (Li xs).eqv (Li ys) = decide (xs = ys) := by
  show PyData.eqv (T.pd (Li xs)) (T.pd (Li ys)) = _
  rw [T.pd, T.pd, PyData.eqv]
  exact eqvAll_ints xs ys
theorem eqvAll_Li : ∀ xs ys : List (List Int), PyData.eqvAll (T.pds (xs.map fun x => Li x)) (T.pds (ys.map fun x => Li x)) = decide (xs = ys)
  | [], [] => by simp [T.pds, PyData.eqvAll]
  | [], _ :: _ => by simp [T.pds, PyData.eqvAll]
  | _ :: _, [] => by simp [T.pds, PyData.eqvAll]
  | x :: xs, y :: ys => by
    rw [List.map_cons, List.map_cons, T.pds, T.pds, PyData.eqvAll, eqvAll_Li xs ys]
    rw [show PyData.eqv (T.pd (Li x)) (T.pd (Li y)) = decide (x = y) from eqv_Li x y]
    by_cases h : x = y <;> by_cases h2 : xs = ys <;> simp [h, h2]
theorem eqv_Lm (xs ys : List (List Int)) : (Lm xs).eqv (Lm ys) = decide (xs = ys) := by
  show PyData.eqv (T.pd (Lm xs)) (T.pd (Lm ys)) = _
  rw [T.pd, T.pd, PyData.eqv]
  exact eqvAll_Li xs ys
theorem atI_natT {α : Type} {xs : List α} {j : Nat} {v : α} (h : xs[j]? = some v) : atI xs (j : Int) = some v := L2.atI_nat h
theorem ixN_nat {n j : Nat} (h : j < n) : ixN n (j : Int) = some j := by
  unfold ixN
  rw [if_pos (by omega), if_pos (by omega)]
  simp
theorem atI_Li {xs : List Int} {i : Nat} {x : Int} (h : xs[i]? = some x) : atI (xs.map T.int) (i : Int) = some (.int x) := L2.atI_nat (by rw [List.getElem?_map, h]; rfl)
theorem atI_Lm {xs : List (List Int)} {i : Nat} {x : List Int} (h : xs[i]? = some x) : atI (xs.map fun x => Li x) (i : Int) = some (Li x) := L2.atI_nat (by rw [List.getElem?_map, h]; rfl)
theorem atI_neg1 {α : Type} {xs : List α} {x : α} (h : xs.getLast? = some x) : atI xs (-1) = some x := by
  have hl : xs ≠ [] := by rintro rfl; cases h
  have h0 : 0 < xs.length := List.length_pos_iff.mpr hl
  unfold atI ixN
  rw [if_neg (by omega), if_pos (by omega)]
  show xs[((-1 : Int) + xs.length).toNat]? = some x
  rw [show ((-1 : Int) + xs.length).toNat = xs.length - 1 by omega, ← List.getLast?_eq_getElem?]
  exact h
theorem getLast_map {α β : Type} {f : α → β} {xs : List α} {x : α} (h : xs.getLast? = some x) : (xs.map f).getLast? = some (f x) := by
  rw [List.getLast?_map, h]; rfl
theorem noAl_ow {i n : Nat} {t : T} : noAl i (.ow n t) = .ow n t := rfl
theorem noAl_io1 {i n : Nat} {t : T} : noAl i (.io n t) = .io n t := rfl
theorem noAl_no {i : Nat} : noAl i .no = .no := rfl
theorem noAl_ro {i : Nat} {t : T} : noAl i (.ro t) = .ro t := rfl
theorem noAl_al' {i j k : Nat} {t : T} : noAl i (.al j k t) = if j = i then .no else .al j k t := rfl
theorem noRo_ow {js : List Nat} {n : Nat} {t : T} : noRo js (.ow n t) = .ow n t := rfl
theorem noRo_io {js : List Nat} {n : Nat} {t : T} : noRo js (.io n t) = .io n t := rfl
theorem noRo_no {js : List Nat} : noRo js .no = .no := rfl
theorem noRA_ow {n : Nat} {t : T} : noRA (.ow n t) = .ow n t := rfl
theorem noRA_io {n : Nat} {t : T} : noRA (.io n t) = .io n t := rfl
theorem noRA_no : noRA .no = .no := rfl
theorem noRA_al {i j : Nat} {t : T} : noRA (.al i j t) = .no := rfl
theorem shE_ow0 {t : T} : shE (.ow 0 t) = .ow 0 t := rfl
theorem shE_ow1 {n : Nat} {t : T} : shE (.ow (n + 1) t) = .no := rfl
theorem shE_io {n : Nat} {t : T} : shE (.io n t) = .no := rfl
theorem shE_no : shE .no = .no := rfl
theorem gIx_Li {xs : List Int} {i : Nat} {x : Int} {R : T → Prop} (h : xs[i]? = some x) (hR : R (.int x)) : gIx (Li xs) (.int (i : Nat)) R := by
  show match atI (xs.map T.int) (i : Int) with | some x => R x | none => False
  rw [atI_Li h]; exact hR
theorem gIx_Lm {xs : List (List Int)} {i : Nat} {x : List Int} {R : T → Prop} (h : xs[i]? = some x) (hR : R (Li x)) : gIx (Lm xs) (.int (i : Nat)) R := by
  show match atI (xs.map fun x => Li x) (i : Int) with | some x => R x | none => False
  rw [atI_Lm h]; exact hR
theorem gIx_lst {xs : List T} {i : Nat} {x : T} {R : T → Prop} (h : xs[i]? = some x) (hR : R x) : gIx (.lst xs) (.int (i : Nat)) R := by
  show match atI xs (i : Int) with | some x => R x | none => False
  rw [atI_natT h]; exact hR
theorem gIx_last {xs : List T} {x : T} {R : T → Prop} (h : xs.getLast? = some x) (hR : R x) : gIx (.lst xs) (.int (-1)) R := by
  show match atI xs (-1) with | some x => R x | none => False
  rw [atI_neg1 h]; exact hR
theorem lst_set {xs : List Int} {i : Nat} {v : Int} : T.lst ((xs.map T.int).set i (T.int v)) = Li (xs.set i v) := congrArg T.lst List.map_set.symm
theorem lst_snoc {xs : List Int} {v : Int} : T.lst (xs.map T.int ++ [T.int v]) = Li (xs ++ [v]) := by show _ = T.lst _; rw [List.map_append]; rfl
theorem lm_set {xs : List (List Int)} {i : Nat} {v : List Int} : T.lst ((xs.map fun x => Li x).set i (Li v)) = Lm (xs.set i v) := congrArg T.lst List.map_set.symm
theorem lm_snoc {xs : List (List Int)} {v : List Int} : T.lst ((xs.map fun x => Li x) ++ [Li v]) = Lm (xs ++ [v]) := by show _ = T.lst _; rw [List.map_append]; rfl
theorem lst_nil : T.lst [] = Li [] := rfl
/-! ### calls whose first argument is slot 0, changed -/
theorem putL_none {us : List (Nat × T)} : ∀ {ρ : List Ent} {k : Nat}, (∀ i, k ≤ i → us.lookup i = none) → putL us k ρ = ρ
  | [], _, _ => rfl
  | e :: ρ, k, h => by
    rw [putL, h k (Nat.le_refl _), putL_none fun i hi => h i (by omega)]
theorem putL_0 {t : T} {e : Ent} {ρ : List Ent} : putL [(0, t)] 0 (e :: ρ) = e.put t :: ρ := by
  rw [putL, putL_none fun i hi => ?_]
  · rfl
  · show (match i == 0 with | true => some t | false => List.lookup i []) = none
    rw [show (i == 0) = false from beq_eq_false_iff_ne.mpr (by omega)]; rfl
theorem inT_io1 {n : Nat} {t x u : T} {ρ : List Ent} : inT (.io n t :: ρ) [.io n, .sh] [.sl 0, .tv 0] [x, u] = some [t, u] := by simp [inT, Ent.own]
theorem inT_ow1 {n : Nat} {t x u : T} {ρ : List Ent} : inT (.ow n t :: ρ) [.io n, .sh] [.sl 0, .tv 0] [x, u] = some [t, u] := by simp [inT, Ent.own]
theorem killJ_cons {js : List Nat} {e : Ent} {ρ : List Ent} : killJ js (e :: ρ) = noRo js e :: killJ js ρ := rfl
theorem killJ_nil0 {js : List Nat} : killJ js [] = [] := rfl
theorem putL_e : ∀ {ρ : List Ent} {k : Nat}, putL [] k ρ = ρ := putL_none fun _ _ => rfl
theorem noRo_al {js : List Nat} {j i : Nat} {t : T} : noRo js (.al j i t) = if j ∈ js then .no else .al j i t := rfl
theorem mem1 {a b : Nat} : (a ∈ [b]) = (a = b) := by simp
end TL
set_option Elab.async false
set_option linter.all false
set_option maxRecDepth 100000
namespace K94
open PySem PySem.Spec PyProof.Rows L2 TL
def topS (i : Nat) : Stmt := PySem.Challenge.pw_pensionhall_k94_whole_ring_clearing.main.body.getD i (.Pass ⟨0, 0, 0, 0⟩)
abbrev s_in_range : Stmt := topS 4
theorem sc_in_range : FnScope ["x", "least", "most"] ["x", "least", "most"] (defScope s_in_range) := ⟨rfl, rfl, rfl, by decide +kernel, rfl, by decide +kernel, by decide +kernel⟩
abbrev s_check_share : Stmt := topS 10
theorem sc_check_share : FnScope ["rule", "claims", "got", "coins", "claim", "received"] ["rule", "claims", "got", "coins"] (defScope s_check_share) := ⟨rfl, rfl, rfl, by decide +kernel, rfl, by decide +kernel, by decide +kernel⟩
abbrev s_raised : Stmt := topS 11
theorem sc_raised : FnScope ["claims", "got", "level", "added", "claim", "received"] ["claims", "got", "level"] (defScope s_raised) := ⟨rfl, rfl, rfl, by decide +kernel, rfl, by decide +kernel, by decide +kernel⟩
abbrev s_level_share : Stmt := topS 12
theorem sc_level_share : FnScope ["claims", "got", "coins", "low", "high", "added", "left", "middle", "index", "claim"] ["claims", "got", "coins"] (defScope s_level_share) := ⟨rfl, rfl, rfl, by decide +kernel, rfl, by decide +kernel, by decide +kernel⟩
abbrev s_share : Stmt := topS 16
theorem sc_share : FnScope ["rule", "claims", "got", "coins", "opens", "claim", "received"] ["rule", "claims", "got", "coins"] (defScope s_share) := ⟨rfl, rfl, rfl, by decide +kernel, rfl, by decide +kernel, by decide +kernel⟩
abbrev s_next_plan : Stmt := topS 18
theorem sc_next_plan : FnScope ["matrix", "own", "plan", "funds", "house", "debts", "payments", "creditor", "coins"] ["matrix", "own", "plan"] (defScope s_next_plan) := ⟨rfl, rfl, rfl, by decide +kernel, rfl, by decide +kernel, by decide +kernel⟩
abbrev s_stages : Stmt := topS 19
theorem sc_stages : FnScope ["matrix", "own", "plans", "following", "debts"] ["matrix", "own"] (defScope s_stages) := ⟨rfl, rfl, rfl, by decide +kernel, rfl, by decide +kernel, by decide +kernel⟩
abbrev s_clearing : Stmt := topS 20
theorem sc_clearing : FnScope ["matrix", "own"] ["matrix", "own"] (defScope s_clearing) := ⟨rfl, rfl, rfl, by decide +kernel, rfl, by decide +kernel, by decide +kernel⟩
abbrev s_shows_clearing : Stmt := topS 21
theorem sc_shows_clearing : FnScope ["matrix", "own", "plans"] ["matrix", "own", "plans"] (defScope s_shows_clearing) := ⟨rfl, rfl, rfl, by decide +kernel, rfl, by decide +kernel, by decide +kernel⟩
abbrev s__law_pool : Stmt := topS 23
theorem sc__law_pool : FnScope ["script", "at", "salt", "cell", "rest"] ["script", "at", "salt"] (defScope s__law_pool) := ⟨rfl, rfl, rfl, by decide +kernel, rfl, by decide +kernel, by decide +kernel⟩
abbrev s__law_mix : Stmt := topS 24
theorem sc__law_mix : FnScope ["seed", "turn", "one", "two", "three"] ["seed", "turn"] (defScope s__law_mix) := ⟨rfl, rfl, rfl, by decide +kernel, rfl, by decide +kernel, by decide +kernel⟩
abbrev s__law_draw : Stmt := topS 25
theorem sc__law_draw : FnScope ["pool", "many", "value"] ["pool", "many"] (defScope s__law_draw) := ⟨rfl, rfl, rfl, by decide +kernel, rfl, by decide +kernel, by decide +kernel⟩
abbrev s__law_pick : Stmt := topS 26
theorem sc__law_pick : FnScope ["pool", "row"] ["pool", "row"] (defScope s__law_pick) := ⟨rfl, rfl, rfl, by decide +kernel, rfl, by decide +kernel, by decide +kernel⟩
abbrev s__law_whole : Stmt := topS 27
theorem sc__law_whole : FnScope ["thing"] ["thing"] (defScope s__law_whole) := ⟨rfl, rfl, rfl, by decide +kernel, rfl, by decide +kernel, by decide +kernel⟩
abbrev s__law_same : Stmt := topS 28
theorem sc__law_same : FnScope ["told", "due", "k", "keys", "key"] ["told", "due"] (defScope s__law_same) := ⟨rfl, rfl, rfl, by decide +kernel, rfl, by decide +kernel, by decide +kernel⟩
abbrev s__law_debts : Stmt := topS 29
theorem sc__law_debts : FnScope ["pool", "size", "mode", "matrix", "i", "j", "coins", "k", "row"] ["pool", "size"] (defScope s__law_debts) := ⟨rfl, rfl, rfl, by decide +kernel, rfl, by decide +kernel, by decide +kernel⟩
abbrev s__law_owns : Stmt := topS 30
theorem sc__law_owns : FnScope ["pool", "size", "k"] ["pool", "size"] (defScope s__law_owns) := ⟨rfl, rfl, rfl, by decide +kernel, rfl, by decide +kernel, by decide +kernel⟩
abbrev s__law_level : Stmt := topS 31
theorem sc__law_level : FnScope ["claims", "coins", "level", "step", "added", "left", "k", "claim"] ["claims", "coins"] (defScope s__law_level) := ⟨rfl, rfl, rfl, by decide +kernel, rfl, by decide +kernel, by decide +kernel⟩
abbrev s__law_after : Stmt := topS 32
theorem sc__law_after : FnScope ["matrix", "own", "plan", "have", "j", "added", "i"] ["matrix", "own", "plan"] (defScope s__law_after) := ⟨rfl, rfl, rfl, by decide +kernel, rfl, by decide +kernel, by decide +kernel⟩
abbrev s__law_plans : Stmt := topS 33
theorem sc__law_plans : FnScope ["matrix", "own", "first", "plans", "k", "new"] ["matrix", "own", "first"] (defScope s__law_plans) := ⟨rfl, rfl, rfl, by decide +kernel, rfl, by decide +kernel, by decide +kernel⟩
abbrev s__law_copied : Stmt := topS 34
theorem sc__law_copied : FnScope ["rows", "row"] ["rows"] (defScope s__law_copied) := ⟨rfl, rfl, rfl, by decide +kernel, rfl, by decide +kernel, by decide +kernel⟩
abbrev s__law_other_plans : Stmt := topS 35
theorem sc__law_other_plans : FnScope ["pool", "plans", "up", "told", "turn", "at", "row", "spot"] ["pool", "plans", "up"] (defScope s__law_other_plans) := ⟨rfl, rfl, rfl, by decide +kernel, rfl, by decide +kernel, by decide +kernel⟩
abbrev s_law : Stmt := topS 36
theorem sc_law : FnScope ["script", "pool", "size", "matrix", "own", "owed", "plans", "up", "handed", "told", "row", "paid", "k", "less", "other", "mine", "held", "coins"] ["script"] (defScope s_law) := ⟨rfl, rfl, rfl, by decide +kernel, rfl, by decide +kernel, by decide +kernel⟩
structure Gs (K : PySem.W.Frag) (mg : Str → Option Value) where
  g_in_range : GF K mg "in_range" s_in_range ["x", "least", "most"]
  g_check_share : GF K mg "check_share" s_check_share ["rule", "claims", "got", "coins"]
  g_raised : GF K mg "raised" s_raised ["claims", "got", "level"]
  g_level_share : GF K mg "level_share" s_level_share ["claims", "got", "coins"]
  g_share : GF K mg "share" s_share ["rule", "claims", "got", "coins"]
  g_next_plan : GF K mg "next_plan" s_next_plan ["matrix", "own", "plan"]
  g_stages : GF K mg "stages" s_stages ["matrix", "own"]
  g_clearing : GF K mg "clearing" s_clearing ["matrix", "own"]
  g_shows_clearing : GF K mg "shows_clearing" s_shows_clearing ["matrix", "own", "plans"]
  g__law_pool : GF K mg "_law_pool" s__law_pool ["script", "at", "salt"]
  g__law_mix : GF K mg "_law_mix" s__law_mix ["seed", "turn"]
  g__law_draw : GF K mg "_law_draw" s__law_draw ["pool", "many"]
  g__law_pick : GF K mg "_law_pick" s__law_pick ["pool", "row"]
  g__law_whole : GF K mg "_law_whole" s__law_whole ["thing"]
  g__law_same : GF K mg "_law_same" s__law_same ["told", "due"]
  g__law_debts : GF K mg "_law_debts" s__law_debts ["pool", "size"]
  g__law_owns : GF K mg "_law_owns" s__law_owns ["pool", "size"]
  g__law_level : GF K mg "_law_level" s__law_level ["claims", "coins"]
  g__law_after : GF K mg "_law_after" s__law_after ["matrix", "own", "plan"]
  g__law_plans : GF K mg "_law_plans" s__law_plans ["matrix", "own", "first"]
  g__law_copied : GF K mg "_law_copied" s__law_copied ["rows"]
  g__law_other_plans : GF K mg "_law_other_plans" s__law_other_plans ["pool", "plans", "up"]
  g_law : GF K mg "law" s_law ["script"]
  z_len : mg "len" = none
  z_abs : mg "abs" = none
  z_int : mg "int" = none
  z_sum : mg "sum" = none
  z_max : mg "max" = none
  z_min : mg "min" = none
  z_range : mg "range" = none
  z_enumerate : mg "enumerate" = none
  z_zip : mg "zip" = none
  z_list : mg "list" = none
  z_isinstance : mg "isinstance" = none
  z_bool : mg "bool" = none
  z_str : mg "str" = none
  z_dict : mg "dict" = none
  z_tuple : mg "tuple" = none
  c_most : ∃ t, mg "MOST_CLAIMS" = some (.int 40 t)
  c_claim : ∃ t, mg "GREATEST_CLAIM" = some (.int 1000000000000 t)
  c_coins : ∃ t, mg "GREATEST_COINS" = some (.int 1000000000000000 t)
  a_rules : Addr
  c_rules : True ∧ mg "RULES" = some (.ref a_rules) ∧ ∀ H S, Shr K H S (.tup [.str "level", .str "loss", .str "quota"]) (.ref a_rules)
end K94
set_option Elab.async false
set_option linter.all false
set_option maxRecDepth 100000
namespace K94
open PySem PySem.Spec PyProof.Rows L2 TL
theorem ifF {c : Prop} [Decidable c] {A B : Prop} (hc : ¬c) (h : B) : if c then A else B := by rw [if_neg hc]; exact h
theorem ifT {c : Prop} [Decidable c] {A B : Prop} (hc : c) (h : A) : if c then A else B := by rw [if_pos hc]; exact h
theorem ifS {c : Prop} [Decidable c] {A B : Prop} (h1 : c → A) (h2 : ¬c → B) : if c then A else B := by by_cases h : c; rw [if_pos h]; exact h1 h; rw [if_neg h]; exact h2 h
theorem fit0 {n : Nat} {t : T} : fit 0 n t := .inl (Nat.zero_le _)
theorem take_snoc {α : Type} {xs : List α} {i : Nat} {x : α} (h : xs[i]? = some x) : xs.take i ++ [x] = xs.take (i + 1) := by rw [List.take_add_one, h]; rfl
section
variable {P : Program} {w : World} {K : PySem.W.Frag} {mg : Str → Option Value} {base : Heap}
def W_in_range : FnT := fun ts R => ∃ x l m : Int, ts = [.int x, .int l, .int m] ∧ R 0 (.bl (decide (l ≤ x) && decide (x ≤ m))) []
theorem ok_in_range {k : Nat} (G : Gs K mg) : FnOk P w K mg base CX0 (k + 1) G.g_in_range.f G.g_in_range.d ["x", "least", "most"] (spT K (allSh 3) W_in_range) := by
  refine fnT (k := k + 0) G.g_in_range.F sc_in_range rfl (fun X cdv A outer s H E hX hr => ?_)
  subst hX
  refine ⟨_, (ts_one (ts_ret (tv_p (tp_chain op_le op_le opT_bl opT_bl (tp_var 1) (tp_var 0) (tp_var 2))))), fun ts R hW hlen => ?_⟩

  obtain ⟨x, l, m, rfl, h⟩ := hW
  simp -dsimp only [↓uSeq, ↓uNext, ↓uFor, ↓uSt, ↓uStV, ↓uAu, ↓uAp, ↓uApMv, ↓uAuN, ↓uAlias, ↓uDem, ↓uBrk, ↓uCnt, ↓uNev, ↓uRet, ↓uRetN, ↓uExp, ↓uExpP, ↓uSet, ↓uSetR, ↓uIf, ↓wVar, ↓wVarV, ↓wC, ↓w1, ↓w2, ↓wT, asB, ↓wChain, ↓wNil, ↓wCons, ↓wAnd, ↓wOr, ↓wNot, ↓wAndV, ↓wOrV, ↓wNotV, ↓wIf, ↓wCallP, ↓wCallV, ↓wCa, ↓wTup, ↓wLst, ↓oNon, ↓oSom, ↓wSlice, ↓wRev, ↓vP, ↓vSh, ↓vFit, ↓vaNil, ↓vaCons, ↓vLst, ↓vTup, ↓vTup0, ↓vList, ↓vRep, ↓vSlice, ↓cSl, ↓vCallN, ↓v1, ↓vCa, ↓vIx, ↓tP, ↓vAnd, ↓vOr, ↓vNot, ↓vIf, ↓vT, ↓v2, ↓vLc, ↓gI2, ↓gI2c, ↓gLen, ↓gII, ↓gI, ↓gInt1, ↓gRep, ↓gCat, ↓gKids, ↓gIn, ↓iLst, ↓TL.iTup, ↓TL.iRng1, ↓TL.iRng2, ↓iEn, ↓iZp, ↓hName, ↓hCons, ↓hNil, ↓hTup, ↓wSl, ↓wIsi, ↓wYes, rho0, iniE, entOf, allSh, List.replicate, List.length_cons, List.length_nil, Nat.reduceAdd, Nat.reduceSub, Nat.reduceLT, Nat.reduceLeDiff, List.cons_append, List.nil_append, List.getElem?_cons_zero, List.getElem?_cons_succ, Option.bind_some, Ent.tr, Ent.own, Ent.put, setE, killA, noAl_ow, noAl_io1, noAl_no, noAl_ro, noAl_al', killJ_cons, killJ_nil0, noRo_ow, noRo_io, noRo_no, noRo_al, mem1, notIn, noRA_ow, noRA_io, noRA_no, noRA_al, Plc, demE, List.foldl_cons, List.foldl_nil, List.map_cons, List.map_nil, List.set_cons_zero, List.set_cons_succ, endsOf, ↓outsOf, Option.map_some, plSet, TL.putAt, T.put, true_and, and_true, lst_set, lst_snoc, lm_set, lm_snoc, shOnly, shE_ow0, shE_ow1, shE_io, shE_no, Option.isSome_some, reduceIte, if_true, if_false, Bool.false_eq_true, Nat.reduceEqDiff]
  split
  · rename_i e
    rw [e, Bool.true_and] at h
    exact ⟨rfl, h⟩
  · rename_i e
    rw [Bool.eq_false_iff.mpr e] at h
    exact ⟨rfl, h⟩
theorem inr_no {x l m : Int} (h1 : l ≤ x) (h2 : x ≤ m) : ¬ ((!(decide (l ≤ x) && decide (x ≤ m))) = true) := by simp [h1, h2]
def W_check_share : FnT := fun ts R => ∃ (cl gt : List Int) (c : Int), ts = [.str "level", Li cl, Li gt, .int c] ∧ cl.length ≤ 40 ∧ gt.length = cl.length ∧ (∀ x ∈ cl, 0 ≤ x ∧ x ≤ 1000000000000) ∧ (∀ (i : Nat) (x y : Int), cl[i]? = some x → gt[i]? = some y → 0 ≤ y ∧ y ≤ x) ∧ 0 ≤ c ∧ c ≤ 1000000000000000 ∧ R 0 .non []
theorem ok_check_share {k : Nat} (G : Gs K mg) : FnOk P w K mg base CX0 (k + 2) G.g_check_share.f G.g_check_share.d ["rule", "claims", "got", "coins"] (spT K (allSh 4) W_check_share) := by
  refine fnT (k := k + 1) G.g_check_share.F sc_check_share rfl (fun X cdv A outer s H E hX hr => ?_)
  subst hX
  refine ⟨_, (ts_cons (ts_if (tvt_p (tpt_cmp op_notIn_seq opT_notIn (tp_var 0) (tp_globT (by rfl) G.c_rules.2.1 G.c_rules.2.2) (by rfl))) tss_never ts_nil)
      (ts_cons (ts_if (tvt_p (tpt_cmp op_gt opT_bl (tp_callB call_len_seq caT_len (by rfl) G.z_len PySem.boot_len (tpa_cons (tp_var 1) tpa_nil)) (tp_globI (by rfl) G.c_most) (nomark _))) tss_never ts_nil)
      (ts_cons (ts_for PassesOwn.never rfl (ti_lst (tv_var 1)) (tg_name 4 sc_check_share.nd rfl (.inl rfl)) (ts_one (ts_if (tvt_p (tpt_not (tpt_val (tp_call (ok_in_range (k := k + 0) G) hr (by rfl) G.g_in_range.g G.g_in_range.F.kp G.g_in_range.b (tpa_cons (tp_var 4) (tpa_cons tp_int (tpa_cons (tp_globI (by rfl) G.c_claim) tpa_nil))))))) tss_never ts_nil)))
      (ts_cons (ts_if (tvt_p (tpt_cmp op_ne opT_neS (tp_callB call_len_seq caT_len (by rfl) G.z_len PySem.boot_len (tpa_cons (tp_var 2) tpa_nil)) (tp_callB call_len_seq caT_len (by rfl) G.z_len PySem.boot_len (tpa_cons (tp_var 1) tpa_nil)) (nomark _))) tss_never ts_nil)
      (ts_cons (ts_for PassesOwn.never rfl (ti_zip (by rfl) G.z_zip (tva_cons 0 (tv_var 1) (tva_cons 0 (tv_var 2) tva_nil))) (tg_tup rfl (tgs_cons (tg_name 4 sc_check_share.nd rfl (.inl rfl)) (tgs_cons (tg_name 5 sc_check_share.nd rfl (.inl rfl)) tgs_nil)) h2_len) (ts_one (ts_if (tvt_p (tpt_not (tpt_val (tp_call (ok_in_range (k := k + 0) G) hr (by rfl) G.g_in_range.g G.g_in_range.F.kp G.g_in_range.b (tpa_cons (tp_var 5) (tpa_cons tp_int (tpa_cons (tp_var 4) tpa_nil))))))) tss_never ts_nil)))
      (ts_one (ts_if (tvt_p (tpt_not (tpt_val (tp_call (ok_in_range (k := k + 0) G) hr (by rfl) G.g_in_range.g G.g_in_range.F.kp G.g_in_range.b (tpa_cons (tp_var 3) (tpa_cons tp_int (tpa_cons (tp_globI (by rfl) G.c_coins) tpa_nil))))))) tss_never ts_nil))))))), fun ts R hW hlen => ?_⟩

  obtain ⟨cl, gt, c, rfl, h1, h2, h3, h4, h5, h6, h⟩ := hW
  simp -dsimp only [↓uSeq, ↓uNext, ↓uFor, ↓uSt, ↓uStV, ↓uAu, ↓uAp, ↓uApMv, ↓uAuN, ↓uAlias, ↓uDem, ↓uBrk, ↓uCnt, ↓uNev, ↓uRet, ↓uRetN, ↓uExp, ↓uExpP, ↓uSet, ↓uSetR, ↓uIf, ↓wVar, ↓wVarV, ↓wC, ↓w1, ↓w2, ↓wT, asB, ↓wChain, ↓wNil, ↓wCons, ↓wAnd, ↓wOr, ↓wNot, ↓wAndV, ↓wOrV, ↓wNotV, ↓wIf, ↓wCallP, ↓wCallV, ↓wCa, ↓wTup, ↓wLst, ↓oNon, ↓oSom, ↓wSlice, ↓wRev, ↓vP, ↓vSh, ↓vFit, ↓vaNil, ↓vaCons, ↓vLst, ↓vTup, ↓vTup0, ↓vList, ↓vRep, ↓vSlice, ↓cSl, ↓vCallN, ↓v1, ↓vCa, ↓vIx, ↓tP, ↓vAnd, ↓vOr, ↓vNot, ↓vIf, ↓vT, ↓v2, ↓vLc, ↓gI2, ↓gI2c, ↓gLen, ↓gII, ↓gI, ↓gInt1, ↓gRep, ↓gCat, ↓gKids, ↓gIn, ↓iLst, ↓TL.iTup, ↓TL.iRng1, ↓TL.iRng2, ↓iEn, ↓iZp, ↓hName, ↓hCons, ↓hNil, ↓hTup, ↓wSl, ↓wIsi, ↓wYes, rho0, iniE, entOf, allSh, List.replicate, List.length_cons, List.length_nil, Nat.reduceAdd, Nat.reduceSub, Nat.reduceLT, Nat.reduceLeDiff, List.cons_append, List.nil_append, List.getElem?_cons_zero, List.getElem?_cons_succ, Option.bind_some, Ent.tr, Ent.own, Ent.put, setE, killA, noAl_ow, noAl_io1, noAl_no, noAl_ro, noAl_al', killJ_cons, killJ_nil0, noRo_ow, noRo_io, noRo_no, noRo_al, mem1, notIn, noRA_ow, noRA_io, noRA_no, noRA_al, Plc, demE, List.foldl_cons, List.foldl_nil, List.map_cons, List.map_nil, List.set_cons_zero, List.set_cons_succ, endsOf, ↓outsOf, Option.map_some, plSet, TL.putAt, T.put, true_and, and_true, lst_set, lst_snoc, lm_set, lm_snoc, shOnly, shE_ow0, shE_ow1, shE_io, shE_no, Option.isSome_some, reduceIte, if_true, if_false, Bool.false_eq_true, Nat.reduceEqDiff]
  refine ⟨rfl, rfl, ifF (by decide +kernel) (ifF (by simp; omega) ?_)⟩
  refine ⟨fun _ ρ => ∃ x4 x5, ρ = [Ent.ow 0 (T.str "level"), Ent.ow 0 (Li cl), Ent.ow 0 (Li gt), Ent.ow 0 (T.int c), x4, x5], ⟨_, _, rfl⟩, fun i t ρ hi hI => ?_, fun ρ hI => ?_⟩
  · obtain ⟨x4, x5, rfl⟩ := hI
    obtain ⟨x, hx, rfl⟩ := mapint_get.mp hi
    have hm := h3 x (List.mem_of_getElem? hx)
    simp -dsimp only [↓uSeq, ↓uNext, ↓uFor, ↓uSt, ↓uStV, ↓uAu, ↓uAp, ↓uApMv, ↓uAuN, ↓uAlias, ↓uDem, ↓uBrk, ↓uCnt, ↓uNev, ↓uRet, ↓uRetN, ↓uExp, ↓uExpP, ↓uSet, ↓uSetR, ↓uIf, ↓wVar, ↓wVarV, ↓wC, ↓w1, ↓w2, ↓wT, asB, ↓wChain, ↓wNil, ↓wCons, ↓wAnd, ↓wOr, ↓wNot, ↓wAndV, ↓wOrV, ↓wNotV, ↓wIf, ↓wCallP, ↓wCallV, ↓wCa, ↓wTup, ↓wLst, ↓oNon, ↓oSom, ↓wSlice, ↓wRev, ↓vP, ↓vSh, ↓vFit, ↓vaNil, ↓vaCons, ↓vLst, ↓vTup, ↓vTup0, ↓vList, ↓vRep, ↓vSlice, ↓cSl, ↓vCallN, ↓v1, ↓vCa, ↓vIx, ↓tP, ↓vAnd, ↓vOr, ↓vNot, ↓vIf, ↓vT, ↓v2, ↓vLc, ↓gI2, ↓gI2c, ↓gLen, ↓gII, ↓gI, ↓gInt1, ↓gRep, ↓gCat, ↓gKids, ↓gIn, ↓iLst, ↓TL.iTup, ↓TL.iRng1, ↓TL.iRng2, ↓iEn, ↓iZp, ↓hName, ↓hCons, ↓hNil, ↓hTup, ↓wSl, ↓wIsi, ↓wYes, rho0, iniE, entOf, allSh, List.replicate, List.length_cons, List.length_nil, Nat.reduceAdd, Nat.reduceSub, Nat.reduceLT, Nat.reduceLeDiff, List.cons_append, List.nil_append, List.getElem?_cons_zero, List.getElem?_cons_succ, Option.bind_some, Ent.tr, Ent.own, Ent.put, setE, killA, noAl_ow, noAl_io1, noAl_no, noAl_ro, noAl_al', killJ_cons, killJ_nil0, noRo_ow, noRo_io, noRo_no, noRo_al, mem1, notIn, noRA_ow, noRA_io, noRA_no, noRA_al, Plc, demE, List.foldl_cons, List.foldl_nil, List.map_cons, List.map_nil, List.set_cons_zero, List.set_cons_succ, endsOf, ↓outsOf, Option.map_some, plSet, TL.putAt, T.put, true_and, and_true, lst_set, lst_snoc, lm_set, lm_snoc, shOnly, shE_ow0, shE_ow1, shE_io, shE_no, Option.isSome_some, reduceIte, if_true, if_false, Bool.false_eq_true, Nat.reduceEqDiff]
    exact ⟨x, 0, _, rfl, ifF (inr_no hm.1 hm.2) ⟨_, _, rfl⟩⟩
  · obtain ⟨x4, x5, rfl⟩ := hI
    simp -dsimp only [↓uSeq, ↓uNext, ↓uFor, ↓uSt, ↓uStV, ↓uAu, ↓uAp, ↓uApMv, ↓uAuN, ↓uAlias, ↓uDem, ↓uBrk, ↓uCnt, ↓uNev, ↓uRet, ↓uRetN, ↓uExp, ↓uExpP, ↓uSet, ↓uSetR, ↓uIf, ↓wVar, ↓wVarV, ↓wC, ↓w1, ↓w2, ↓wT, asB, ↓wChain, ↓wNil, ↓wCons, ↓wAnd, ↓wOr, ↓wNot, ↓wAndV, ↓wOrV, ↓wNotV, ↓wIf, ↓wCallP, ↓wCallV, ↓wCa, ↓wTup, ↓wLst, ↓oNon, ↓oSom, ↓wSlice, ↓wRev, ↓vP, ↓vSh, ↓vFit, ↓vaNil, ↓vaCons, ↓vLst, ↓vTup, ↓vTup0, ↓vList, ↓vRep, ↓vSlice, ↓cSl, ↓vCallN, ↓v1, ↓vCa, ↓vIx, ↓tP, ↓vAnd, ↓vOr, ↓vNot, ↓vIf, ↓vT, ↓v2, ↓vLc, ↓gI2, ↓gI2c, ↓gLen, ↓gII, ↓gI, ↓gInt1, ↓gRep, ↓gCat, ↓gKids, ↓gIn, ↓iLst, ↓TL.iTup, ↓TL.iRng1, ↓TL.iRng2, ↓iEn, ↓iZp, ↓hName, ↓hCons, ↓hNil, ↓hTup, ↓wSl, ↓wIsi, ↓wYes, rho0, iniE, entOf, allSh, List.replicate, List.length_cons, List.length_nil, Nat.reduceAdd, Nat.reduceSub, Nat.reduceLT, Nat.reduceLeDiff, List.cons_append, List.nil_append, List.getElem?_cons_zero, List.getElem?_cons_succ, Option.bind_some, Ent.tr, Ent.own, Ent.put, setE, killA, noAl_ow, noAl_io1, noAl_no, noAl_ro, noAl_al', killJ_cons, killJ_nil0, noRo_ow, noRo_io, noRo_no, noRo_al, mem1, notIn, noRA_ow, noRA_io, noRA_no, noRA_al, Plc, demE, List.foldl_cons, List.foldl_nil, List.map_cons, List.map_nil, List.set_cons_zero, List.set_cons_succ, endsOf, ↓outsOf, Option.map_some, plSet, TL.putAt, T.put, true_and, and_true, lst_set, lst_snoc, lm_set, lm_snoc, shOnly, shE_ow0, shE_ow1, shE_io, shE_no, Option.isSome_some, reduceIte, if_true, if_false, Bool.false_eq_true, Nat.reduceEqDiff]
    refine ifF (by simp [h2]) ?_
    refine ⟨fit0, fit0, fun _ ρ => ∃ x4 x5, ρ = [Ent.ow 0 (T.str "level"), Ent.ow 0 (Li cl), Ent.ow 0 (Li gt), Ent.ow 0 (T.int c), x4, x5], ⟨_, _, rfl⟩, fun i t ρ hi hI => ?_, fun ρ hI => ?_⟩
    · obtain ⟨x4, x5, rfl⟩ := hI
      obtain ⟨a, b, ha, hb, rfl⟩ := zpT_get.mp hi
      obtain ⟨x, hx, rfl⟩ := mapint_get.mp ha
      obtain ⟨y, hy, rfl⟩ := mapint_get.mp hb
      have hm := h4 i x y hx hy
      simp -dsimp only [↓uSeq, ↓uNext, ↓uFor, ↓uSt, ↓uStV, ↓uAu, ↓uAp, ↓uApMv, ↓uAuN, ↓uAlias, ↓uDem, ↓uBrk, ↓uCnt, ↓uNev, ↓uRet, ↓uRetN, ↓uExp, ↓uExpP, ↓uSet, ↓uSetR, ↓uIf, ↓wVar, ↓wVarV, ↓wC, ↓w1, ↓w2, ↓wT, asB, ↓wChain, ↓wNil, ↓wCons, ↓wAnd, ↓wOr, ↓wNot, ↓wAndV, ↓wOrV, ↓wNotV, ↓wIf, ↓wCallP, ↓wCallV, ↓wCa, ↓wTup, ↓wLst, ↓oNon, ↓oSom, ↓wSlice, ↓wRev, ↓vP, ↓vSh, ↓vFit, ↓vaNil, ↓vaCons, ↓vLst, ↓vTup, ↓vTup0, ↓vList, ↓vRep, ↓vSlice, ↓cSl, ↓vCallN, ↓v1, ↓vCa, ↓vIx, ↓tP, ↓vAnd, ↓vOr, ↓vNot, ↓vIf, ↓vT, ↓v2, ↓vLc, ↓gI2, ↓gI2c, ↓gLen, ↓gII, ↓gI, ↓gInt1, ↓gRep, ↓gCat, ↓gKids, ↓gIn, ↓iLst, ↓TL.iTup, ↓TL.iRng1, ↓TL.iRng2, ↓iEn, ↓iZp, ↓hName, ↓hCons, ↓hNil, ↓hTup, ↓wSl, ↓wIsi, ↓wYes, rho0, iniE, entOf, allSh, List.replicate, List.length_cons, List.length_nil, Nat.reduceAdd, Nat.reduceSub, Nat.reduceLT, Nat.reduceLeDiff, List.cons_append, List.nil_append, List.getElem?_cons_zero, List.getElem?_cons_succ, Option.bind_some, Ent.tr, Ent.own, Ent.put, setE, killA, noAl_ow, noAl_io1, noAl_no, noAl_ro, noAl_al', killJ_cons, killJ_nil0, noRo_ow, noRo_io, noRo_no, noRo_al, mem1, notIn, noRA_ow, noRA_io, noRA_no, noRA_al, Plc, demE, List.foldl_cons, List.foldl_nil, List.map_cons, List.map_nil, List.set_cons_zero, List.set_cons_succ, endsOf, ↓outsOf, Option.map_some, plSet, TL.putAt, T.put, true_and, and_true, lst_set, lst_snoc, lm_set, lm_snoc, shOnly, shE_ow0, shE_ow1, shE_io, shE_no, Option.isSome_some, reduceIte, if_true, if_false, Bool.false_eq_true, Nat.reduceEqDiff]
      exact ⟨y, 0, x, rfl, ifF (inr_no hm.1 hm.2) ⟨_, _, rfl⟩⟩
    · obtain ⟨x4, x5, rfl⟩ := hI
      simp -dsimp only [↓uSeq, ↓uNext, ↓uFor, ↓uSt, ↓uStV, ↓uAu, ↓uAp, ↓uApMv, ↓uAuN, ↓uAlias, ↓uDem, ↓uBrk, ↓uCnt, ↓uNev, ↓uRet, ↓uRetN, ↓uExp, ↓uExpP, ↓uSet, ↓uSetR, ↓uIf, ↓wVar, ↓wVarV, ↓wC, ↓w1, ↓w2, ↓wT, asB, ↓wChain, ↓wNil, ↓wCons, ↓wAnd, ↓wOr, ↓wNot, ↓wAndV, ↓wOrV, ↓wNotV, ↓wIf, ↓wCallP, ↓wCallV, ↓wCa, ↓wTup, ↓wLst, ↓oNon, ↓oSom, ↓wSlice, ↓wRev, ↓vP, ↓vSh, ↓vFit, ↓vaNil, ↓vaCons, ↓vLst, ↓vTup, ↓vTup0, ↓vList, ↓vRep, ↓vSlice, ↓cSl, ↓vCallN, ↓v1, ↓vCa, ↓vIx, ↓tP, ↓vAnd, ↓vOr, ↓vNot, ↓vIf, ↓vT, ↓v2, ↓vLc, ↓gI2, ↓gI2c, ↓gLen, ↓gII, ↓gI, ↓gInt1, ↓gRep, ↓gCat, ↓gKids, ↓gIn, ↓iLst, ↓TL.iTup, ↓TL.iRng1, ↓TL.iRng2, ↓iEn, ↓iZp, ↓hName, ↓hCons, ↓hNil, ↓hTup, ↓wSl, ↓wIsi, ↓wYes, rho0, iniE, entOf, allSh, List.replicate, List.length_cons, List.length_nil, Nat.reduceAdd, Nat.reduceSub, Nat.reduceLT, Nat.reduceLeDiff, List.cons_append, List.nil_append, List.getElem?_cons_zero, List.getElem?_cons_succ, Option.bind_some, Ent.tr, Ent.own, Ent.put, setE, killA, noAl_ow, noAl_io1, noAl_no, noAl_ro, noAl_al', killJ_cons, killJ_nil0, noRo_ow, noRo_io, noRo_no, noRo_al, mem1, notIn, noRA_ow, noRA_io, noRA_no, noRA_al, Plc, demE, List.foldl_cons, List.foldl_nil, List.map_cons, List.map_nil, List.set_cons_zero, List.set_cons_succ, endsOf, ↓outsOf, Option.map_some, plSet, TL.putAt, T.put, true_and, and_true, lst_set, lst_snoc, lm_set, lm_snoc, shOnly, shE_ow0, shE_ow1, shE_io, shE_no, Option.isSome_some, reduceIte, if_true, if_false, Bool.false_eq_true, Nat.reduceEqDiff]
      exact ⟨c, 0, _, rfl, ifF (inr_no h5 h6) h⟩
def rz (c r lv : Int) : Int := if (if lv < c then lv else c) - r > 0 then (if lv < c then lv else c) - r else 0
def raisedF (cl gt : List Int) (lv : Int) : List Int := List.zipWith (fun c r => rz c r lv) cl gt
def W_raised : FnT := fun ts R => ∃ (cl gt : List Int) (lv : Int), ts = [Li cl, Li gt, .int lv] ∧ cl.length ≤ 1000 ∧ gt.length = cl.length ∧ R 1 (Li (raisedF cl gt lv)) []
theorem raisedF_get {cl gt : List Int} {lv c r : Int} {i : Nat} (h : cl[i]? = some c) (h2 : gt[i]? = some r) : (raisedF cl gt lv)[i]? = some (rz c r lv) := by
  unfold raisedF
  rw [List.getElem?_zipWith, h, h2]
theorem li_snoc {xs : List Int} {i : Nat} {x : Int} (h : xs[i]? = some x) : (xs.take i).map T.int ++ [T.int x] = (xs.take (i + 1)).map T.int := by rw [← take_snoc h, List.map_append]; rfl
theorem take_len {α : Type} {xs : List α} : xs.take xs.length = xs := List.take_length
theorem ok_raised {k : Nat} (G : Gs K mg) : FnOk P w K mg base CX0 (k + 1) G.g_raised.f G.g_raised.d ["claims", "got", "level"] (spT K (allSh 3) W_raised) := by
  refine fnT (k := k + 0) G.g_raised.F sc_raised rfl (fun X cdv A outer s H E hX hr => ?_)
  subst hX
  refine ⟨_, (ts_cons (ts_set 3 sc_raised.nd rfl (.inl rfl) (tv_lst 0 tva_nil (by simp) (by decide)))
      (ts_cons (ts_for PassesOwn.never rfl (ti_zip (by rfl) G.z_zip (tva_cons 0 (tv_var 0) (tva_cons 0 (tv_var 1) tva_nil))) (tg_tup rfl (tgs_cons (tg_name 4 sc_raised.nd rfl (.inl rfl)) (tgs_cons (tg_name 5 sc_raised.nd rfl (.inl rfl)) tgs_nil)) h2_len) (ts_one (ts_app 3 (tv_p (tp_callB (call_max2 rfl) caT_ii (by rfl) G.z_max (by decide +kernel) (tpa_cons tp_int (tpa_cons (tp_op op_sub opT_int (tp_callB (call_min2 rfl) caT_ii (by rfl) G.z_min (by decide +kernel) (tpa_cons (tp_var 4) (tpa_cons (tp_var 2) tpa_nil))) (tp_var 5)) tpa_nil)))))))
      (ts_one (ts_ret (tv_var 3))))), fun ts R hW hlen => ?_⟩

  obtain ⟨cl, gt, lv, rfl, h1, h2, h⟩ := hW
  simp -dsimp only [↓uSeq, ↓uNext, ↓uFor, ↓uSt, ↓uStV, ↓uAu, ↓uAp, ↓uApMv, ↓uAuN, ↓uAlias, ↓uDem, ↓uBrk, ↓uCnt, ↓uNev, ↓uRet, ↓uRetN, ↓uExp, ↓uExpP, ↓uSet, ↓uSetR, ↓uIf, ↓wVar, ↓wVarV, ↓wC, ↓w1, ↓w2, ↓wT, asB, ↓wChain, ↓wNil, ↓wCons, ↓wAnd, ↓wOr, ↓wNot, ↓wAndV, ↓wOrV, ↓wNotV, ↓wIf, ↓wCallP, ↓wCallV, ↓wCa, ↓wTup, ↓wLst, ↓oNon, ↓oSom, ↓wSlice, ↓wRev, ↓vP, ↓vSh, ↓vFit, ↓vaNil, ↓vaCons, ↓vLst, ↓vTup, ↓vTup0, ↓vList, ↓vRep, ↓vSlice, ↓cSl, ↓vCallN, ↓v1, ↓vCa, ↓vIx, ↓tP, ↓vAnd, ↓vOr, ↓vNot, ↓vIf, ↓vT, ↓v2, ↓vLc, ↓gI2, ↓gI2c, ↓gLen, ↓gII, ↓gI, ↓gInt1, ↓gRep, ↓gCat, ↓gKids, ↓gIn, ↓iLst, ↓TL.iTup, ↓TL.iRng1, ↓TL.iRng2, ↓iEn, ↓iZp, ↓hName, ↓hCons, ↓hNil, ↓hTup, ↓wSl, ↓wIsi, ↓wYes, rho0, iniE, entOf, allSh, List.replicate, List.length_cons, List.length_nil, Nat.reduceAdd, Nat.reduceSub, Nat.reduceLT, Nat.reduceLeDiff, List.cons_append, List.nil_append, List.getElem?_cons_zero, List.getElem?_cons_succ, Option.bind_some, Ent.tr, Ent.own, Ent.put, setE, killA, noAl_ow, noAl_io1, noAl_no, noAl_ro, noAl_al', killJ_cons, killJ_nil0, noRo_ow, noRo_io, noRo_no, noRo_al, mem1, notIn, noRA_ow, noRA_io, noRA_no, noRA_al, Plc, demE, List.foldl_cons, List.foldl_nil, List.map_cons, List.map_nil, List.set_cons_zero, List.set_cons_succ, endsOf, ↓outsOf, Option.map_some, plSet, TL.putAt, T.put, true_and, and_true, lst_set, lst_snoc, lm_set, lm_snoc, shOnly, shE_ow0, shE_ow1, shE_io, shE_no, Option.isSome_some, reduceIte, if_true, if_false, Bool.false_eq_true, Nat.reduceEqDiff]
  refine ⟨fit0, fit0, fun i ρ => ∃ x4 x5, ρ = [Ent.ow 0 (Li cl), Ent.ow 0 (Li gt), Ent.ow 0 (T.int lv), Ent.ow 1 (Li ((raisedF cl gt lv).take i)), x4, x5], ⟨_, _, rfl⟩, fun i t ρ hi hI => ?_, fun ρ hI => ?_⟩
  · obtain ⟨x4, x5, rfl⟩ := hI
    obtain ⟨a, b, ha, hb, rfl⟩ := zpT_get.mp hi
    obtain ⟨x, hx, rfl⟩ := mapint_get.mp ha
    obtain ⟨y, hy, rfl⟩ := mapint_get.mp hb
    simp -dsimp only [↓uSeq, ↓uNext, ↓uFor, ↓uSt, ↓uStV, ↓uAu, ↓uAp, ↓uApMv, ↓uAuN, ↓uAlias, ↓uDem, ↓uBrk, ↓uCnt, ↓uNev, ↓uRet, ↓uRetN, ↓uExp, ↓uExpP, ↓uSet, ↓uSetR, ↓uIf, ↓wVar, ↓wVarV, ↓wC, ↓w1, ↓w2, ↓wT, asB, ↓wChain, ↓wNil, ↓wCons, ↓wAnd, ↓wOr, ↓wNot, ↓wAndV, ↓wOrV, ↓wNotV, ↓wIf, ↓wCallP, ↓wCallV, ↓wCa, ↓wTup, ↓wLst, ↓oNon, ↓oSom, ↓wSlice, ↓wRev, ↓vP, ↓vSh, ↓vFit, ↓vaNil, ↓vaCons, ↓vLst, ↓vTup, ↓vTup0, ↓vList, ↓vRep, ↓vSlice, ↓cSl, ↓vCallN, ↓v1, ↓vCa, ↓vIx, ↓tP, ↓vAnd, ↓vOr, ↓vNot, ↓vIf, ↓vT, ↓v2, ↓vLc, ↓gI2, ↓gI2c, ↓gLen, ↓gII, ↓gI, ↓gInt1, ↓gRep, ↓gCat, ↓gKids, ↓gIn, ↓iLst, ↓TL.iTup, ↓TL.iRng1, ↓TL.iRng2, ↓iEn, ↓iZp, ↓hName, ↓hCons, ↓hNil, ↓hTup, ↓wSl, ↓wIsi, ↓wYes, rho0, iniE, entOf, allSh, List.replicate, List.length_cons, List.length_nil, Nat.reduceAdd, Nat.reduceSub, Nat.reduceLT, Nat.reduceLeDiff, List.cons_append, List.nil_append, List.getElem?_cons_zero, List.getElem?_cons_succ, Option.bind_some, Ent.tr, Ent.own, Ent.put, setE, killA, noAl_ow, noAl_io1, noAl_no, noAl_ro, noAl_al', killJ_cons, killJ_nil0, noRo_ow, noRo_io, noRo_no, noRo_al, mem1, notIn, noRA_ow, noRA_io, noRA_no, noRA_al, Plc, demE, List.foldl_cons, List.foldl_nil, List.map_cons, List.map_nil, List.set_cons_zero, List.set_cons_succ, endsOf, ↓outsOf, Option.map_some, plSet, TL.putAt, T.put, true_and, and_true, lst_set, lst_snoc, lm_set, lm_snoc, shOnly, shE_ow0, shE_ow1, shE_io, shE_no, Option.isSome_some, reduceIte, if_true, if_false, Bool.false_eq_true, Nat.reduceEqDiff]
    refine ⟨rfl, fit0, ?_, ?_⟩
    · have := (List.getElem?_eq_some_iff.mp hx).1
      simp; omega
    · rw [show (List.take i (raisedF cl gt lv) ++ [if (if lv < x then lv else x) - y > 0 then (if lv < x then lv else x) - y else 0]) = List.take (i + 1) (raisedF cl gt lv) from take_snoc (raisedF_get hx hy)]
      exact ⟨_, _, rfl⟩
  · obtain ⟨x4, x5, rfl⟩ := hI
    simp -dsimp only [↓uSeq, ↓uNext, ↓uFor, ↓uSt, ↓uStV, ↓uAu, ↓uAp, ↓uApMv, ↓uAuN, ↓uAlias, ↓uDem, ↓uBrk, ↓uCnt, ↓uNev, ↓uRet, ↓uRetN, ↓uExp, ↓uExpP, ↓uSet, ↓uSetR, ↓uIf, ↓wVar, ↓wVarV, ↓wC, ↓w1, ↓w2, ↓wT, asB, ↓wChain, ↓wNil, ↓wCons, ↓wAnd, ↓wOr, ↓wNot, ↓wAndV, ↓wOrV, ↓wNotV, ↓wIf, ↓wCallP, ↓wCallV, ↓wCa, ↓wTup, ↓wLst, ↓oNon, ↓oSom, ↓wSlice, ↓wRev, ↓vP, ↓vSh, ↓vFit, ↓vaNil, ↓vaCons, ↓vLst, ↓vTup, ↓vTup0, ↓vList, ↓vRep, ↓vSlice, ↓cSl, ↓vCallN, ↓v1, ↓vCa, ↓vIx, ↓tP, ↓vAnd, ↓vOr, ↓vNot, ↓vIf, ↓vT, ↓v2, ↓vLc, ↓gI2, ↓gI2c, ↓gLen, ↓gII, ↓gI, ↓gInt1, ↓gRep, ↓gCat, ↓gKids, ↓gIn, ↓iLst, ↓TL.iTup, ↓TL.iRng1, ↓TL.iRng2, ↓iEn, ↓iZp, ↓hName, ↓hCons, ↓hNil, ↓hTup, ↓wSl, ↓wIsi, ↓wYes, rho0, iniE, entOf, allSh, List.replicate, List.length_cons, List.length_nil, Nat.reduceAdd, Nat.reduceSub, Nat.reduceLT, Nat.reduceLeDiff, List.cons_append, List.nil_append, List.getElem?_cons_zero, List.getElem?_cons_succ, Option.bind_some, Ent.tr, Ent.own, Ent.put, setE, killA, noAl_ow, noAl_io1, noAl_no, noAl_ro, noAl_al', killJ_cons, killJ_nil0, noRo_ow, noRo_io, noRo_no, noRo_al, mem1, notIn, noRA_ow, noRA_io, noRA_no, noRA_al, Plc, demE, List.foldl_cons, List.foldl_nil, List.map_cons, List.map_nil, List.set_cons_zero, List.set_cons_succ, endsOf, ↓outsOf, Option.map_some, plSet, TL.putAt, T.put, true_and, and_true, lst_set, lst_snoc, lm_set, lm_snoc, shOnly, shE_ow0, shE_ow1, shE_io, shE_no, Option.isSome_some, reduceIte, if_true, if_false, Bool.false_eq_true, Nat.reduceEqDiff]
    have e : (zpT (List.map T.int cl) (List.map T.int gt)).length = (raisedF cl gt lv).length := by unfold zpT raisedF; simp
    rw [e, take_len]
    exact h
/-! ### the mathematics of one debtor -/
def capS (cl : List Int) (lv : Int) : Int := (cl.map fun c => min c lv).sum
def zs (cl : List Int) : List Int := List.replicate cl.length 0
theorem rz_min {c lv : Int} (h : 0 ≤ c) (h2 : 0 ≤ lv) : rz c 0 lv = min c lv := by
  unfold rz
  split <;> split <;> omega
theorem raised_zs {cl : List Int} {lv : Int} (h : ∀ x ∈ cl, 0 ≤ x) (h2 : 0 ≤ lv) : raisedF cl (zs cl) lv = cl.map fun c => min c lv := by
  unfold raisedF zs
  induction cl with
  | nil => rfl
  | cons c cl ih =>
    rw [List.length_cons, List.replicate_succ, List.zipWith_cons_cons, List.map_cons, ih fun x hx => h x (List.mem_cons_of_mem _ hx), rz_min (h c List.mem_cons_self) h2]
/-- the first ones above the level get one more each -/
def fill : List Int → Int → Int → List Int
  | [], _, _ => []
  | c :: cl, lv, left => if left > 0 ∧ c > lv then (min c lv + 1) :: fill cl lv (left - 1) else min c lv :: fill cl lv left
def leftAt : List Int → Int → Int → Nat → Int
  | [], _, left, _ => left
  | _, _, left, 0 => left
  | c :: cl, lv, left, i + 1 => if left > 0 ∧ c > lv then leftAt cl lv (left - 1) i else leftAt cl lv left i
theorem fill_len : ∀ (cl : List Int) (lv left : Int), (fill cl lv left).length = cl.length
  | [], _, _ => rfl
  | c :: cl, lv, left => by
    unfold fill
    split <;> rw [List.length_cons, fill_len, List.length_cons]
theorem leftAt_step : ∀ {cl : List Int} {lv left : Int} {i : Nat} {c : Int}, cl[i]? = some c → leftAt cl lv left (i + 1) = (if leftAt cl lv left i > 0 ∧ c > lv then leftAt cl lv left i - 1 else leftAt cl lv left i) ∧
    (fill cl lv left)[i]? = some (if leftAt cl lv left i > 0 ∧ c > lv then min c lv + 1 else min c lv)
  | [], _, _, _, _, h => by simp at h
  | a :: cl, lv, left, 0, c, h => by
    have h := Option.some.inj h
    subst h
    unfold leftAt fill
    have e0 : ∀ l, leftAt cl lv l 0 = l := fun l => by cases cl <;> rfl
    constructor
    · split <;> rw [e0]
    · split <;> rfl
  | a :: cl, lv, left, i + 1, c, h => by
    rw [List.getElem?_cons_succ] at h
    unfold leftAt fill
    by_cases q : left > 0 ∧ a > lv
    · rw [if_pos q, if_pos q, if_pos q, List.getElem?_cons_succ]
      exact leftAt_step h
    · rw [if_neg q, if_neg q, if_neg q, List.getElem?_cons_succ]
      exact leftAt_step h
/-- the list half way -/
theorem fill_half {cl : List Int} {lv left : Int} {i : Nat} {c : Int} (h : cl[i]? = some c) : ((fill cl lv left).take (i + 1)) ++ ((cl.map fun c => min c lv).drop (i + 1)) = ((fill cl lv left).take i ++ (cl.map fun c => min c lv).drop i).set i (if leftAt cl lv left i > 0 ∧ c > lv then min c lv + 1 else min c lv) := by
  have hi := (List.getElem?_eq_some_iff.mp h).1
  have hl : ((fill cl lv left).take i).length = i := by rw [List.length_take, fill_len]; omega
  rw [List.set_append_right _ _ (by omega), hl, Nat.sub_self]
  have e : (cl.map fun c => min c lv).drop i = min c lv :: (cl.map fun c => min c lv).drop (i + 1) := by
    rw [List.drop_eq_getElem_cons (by simpa using hi)]
    congr 1
    rw [List.getElem_map]
    congr 1
    exact Option.some.inj ((List.getElem?_eq_getElem hi).symm.trans h)
  rw [e, List.set_cons_zero, ← take_snoc (leftAt_step h).2, List.append_assoc]
  rfl
theorem half_get {cl : List Int} {lv left : Int} {i : Nat} {c : Int} (h : cl[i]? = some c) : ((fill cl lv left).take i ++ (cl.map fun c => min c lv).drop i)[i]? = some (min c lv) := by
  have hi := (List.getElem?_eq_some_iff.mp h).1
  have hl : ((fill cl lv left).take i).length = i := by rw [List.length_take, fill_len]; omega
  rw [List.getElem?_append_right (by omega), hl, Nat.sub_self, List.getElem?_drop, Nat.add_zero, List.getElem?_map, h]
  rfl
theorem half_len {cl : List Int} {lv left : Int} {i : Nat} (h : i ≤ cl.length) : ((fill cl lv left).take i ++ (cl.map fun c => min c lv).drop i).length = cl.length := by
  rw [List.length_append, List.length_take, fill_len, List.length_drop, List.length_map]; omega
theorem half_zero {cl : List Int} {lv left : Int} : (fill cl lv left).take 0 ++ (cl.map fun c => min c lv).drop 0 = cl.map fun c => min c lv := by simp
theorem half_end {cl : List Int} {lv left : Int} : (fill cl lv left).take cl.length ++ (cl.map fun c => min c lv).drop cl.length = fill cl lv left := by
  rw [List.drop_of_length_le (by simp), List.append_nil]
  rw [← fill_len cl lv left]
  exact take_len
/-- the level found by halving -/
def IsLev (cl : List Int) (c lv : Int) : Prop := 0 ≤ lv ∧ capS cl lv ≤ c ∧ c < capS cl (lv + 1)
theorem capS_mono {cl : List Int} {a b : Int} (h : a ≤ b) : capS cl a ≤ capS cl b := by
  unfold capS
  induction cl with
  | nil => exact Int.le_refl _
  | cons c cl ih =>
    rw [List.map_cons, List.map_cons, List.sum_cons, List.sum_cons]
    omega
theorem capS_zero {cl : List Int} (h : ∀ x ∈ cl, 0 ≤ x) : capS cl 0 = 0 := by
  unfold capS
  induction cl with
  | nil => rfl
  | cons c cl ih =>
    rw [List.map_cons, List.sum_cons, ih fun x hx => h x (List.mem_cons_of_mem _ hx)]
    have := h c List.mem_cons_self
    omega
theorem map_min_top {cl : List Int} {m : Int} (h : ∀ x ∈ cl, x ≤ m) : (cl.map fun c => min c m) = cl := by
  induction cl with
  | nil => rfl
  | cons c cl ih =>
    rw [List.map_cons, ih fun x hx => h x (List.mem_cons_of_mem _ hx)]
    have := h c List.mem_cons_self
    rw [show min c m = c by omega]
theorem capS_top {cl : List Int} {m : Int} (h : ∀ x ∈ cl, x ≤ m) : capS cl m = cl.sum := by
  unfold capS
  rw [map_min_top h]
theorem zs_len {cl : List Int} : (zs cl).length = cl.length := by unfold zs; simp
def W_level_share : FnT := fun ts R => ∃ (cl : List Int) (c : Int), ts = [Li cl, Li (zs cl), .int c] ∧ 0 < cl.length ∧ cl.length ≤ 40 ∧ (∀ x ∈ cl, 0 ≤ x ∧ x ≤ 40) ∧ 0 ≤ c ∧ c < cl.sum ∧ ∀ lv, IsLev cl c lv → R 1 (Li (fill cl lv (c - capS cl lv))) []
theorem ok_level_share {k : Nat} (G : Gs K mg) : FnOk P w K mg base CX0 (k + 2) G.g_level_share.f G.g_level_share.d ["claims", "got", "coins"] (spT K (allSh 3) W_level_share) := by
  refine fnT (k := k + 1) G.g_level_share.F sc_level_share rfl (fun X cdv A outer s H E hX hr => ?_)
  subst hX
  refine ⟨_, (ts_cons (ts_set 3 sc_level_share.nd rfl (.inl rfl) (tv_p tp_int))
      (ts_cons (ts_set 4 sc_level_share.nd rfl (.inl rfl) (tv_p (tp_callB (cr_max rfl) caT_max (by rfl) G.z_max (by decide +kernel) (tpa_cons (tp_var 0) tpa_nil))))
      (ts_cons (ts_while PassesOwn.never (tvt_p (tpt_cmp op_gt opT_bl (tp_op op_sub opT_int (tp_var 4) (tp_var 3)) tp_int (nomark _))) (ts_cons (ts_set 7 sc_level_share.nd rfl (.inl rfl) (tv_p (tp_op op_fdiv opT_intc (tp_op op_add opT_int (tp_var 3) (tp_var 4)) tp_int)))
      (ts_one (ts_if (tvt_p (tpt_cmp op_le opT_bl (tp_callB (cr_sum rfl) caT_sum (by rfl) G.z_sum (by decide +kernel) (tpa_cons (tp_call (ok_raised (k := k + 0) G) hr (by rfl) G.g_raised.g G.g_raised.F.kp G.g_raised.b (tpa_cons (tp_var 0) (tpa_cons (tp_var 1) (tpa_cons (tp_var 7) tpa_nil)))) tpa_nil)) (tp_var 2) (nomark _))) (ts_one (ts_set 3 sc_level_share.nd rfl (.inl rfl) (tv_p (tp_var 7)))) (ts_one (ts_set 4 sc_level_share.nd rfl (.inl rfl) (tv_p (tp_var 7))))))))
      (ts_cons (ts_set 5 sc_level_share.nd rfl (.inl rfl) (tv_callN (ok_raised (k := k + 0) G) hr (by rfl) G.g_raised.g G.g_raised.F.kp G.g_raised.b (tpa_cons (tp_var 0) (tpa_cons (tp_var 1) (tpa_cons (tp_var 3) tpa_nil)))))
      (ts_cons (ts_set 6 sc_level_share.nd rfl (.inl rfl) (tv_p (tp_op op_sub opT_int (tp_var 2) (tp_callB (cr_sum rfl) caT_sum (by rfl) G.z_sum (by decide +kernel) (tpa_cons (tp_var 5) tpa_nil)))))
      (ts_cons (ts_for PassesOwn.never rfl (ti_enum (by rfl) G.z_enumerate (tva_cons 0 (tv_var 0) tva_nil)) (tg_tup rfl (tgs_cons (tg_name 8 sc_level_share.nd rfl (.inl rfl)) (tgs_cons (tg_name 9 sc_level_share.nd rfl (.inl rfl)) tgs_nil)) h2_len) (ts_one (ts_if (tvt_p (TPW.pt (tpw_and (tpt_cmp op_gt opT_bl (tp_var 6) tp_int (nomark _)) (tpw_and1 (tpt_chain op_le op_lt opT_bl opT_bl (tp_ix (tp_var 1) (tp_var 8) (fun _ _ => rfl)) (tp_var 3) (tp_var 9)))))) (ts_cons (ts_aug 5 ip_add (tp_var 8) tp_int)
      (ts_one (ts_augN 6 ip_sub sc_level_share.nd rfl (.inl rfl) (tv_p tp_int)))) ts_nil)))
      (ts_one (ts_ret (tv_var 5))))))))), fun ts R hW hlen => ?_⟩

  obtain ⟨cl, c, rfl, h0, h1, h2, h3, h4, h⟩ := hW
  simp -dsimp only [↓uSeq, ↓uNext, ↓uFor, ↓uSt, ↓uStV, ↓uAu, ↓uAp, ↓uApMv, ↓uAuN, ↓uAlias, ↓uDem, ↓uBrk, ↓uCnt, ↓uNev, ↓uRet, ↓uRetN, ↓uExp, ↓uExpP, ↓uSet, ↓uSetR, ↓uIf, ↓wVar, ↓wVarV, ↓wC, ↓w1, ↓w2, ↓wT, asB, ↓wChain, ↓wNil, ↓wCons, ↓wAnd, ↓wOr, ↓wNot, ↓wAndV, ↓wOrV, ↓wNotV, ↓wIf, ↓wCallP, ↓wCallV, ↓wCa, ↓wTup, ↓wLst, ↓oNon, ↓oSom, ↓wSlice, ↓wRev, ↓vP, ↓vSh, ↓vFit, ↓vaNil, ↓vaCons, ↓vLst, ↓vTup, ↓vTup0, ↓vList, ↓vRep, ↓vSlice, ↓cSl, ↓vCallN, ↓v1, ↓vCa, ↓vIx, ↓tP, ↓vAnd, ↓vOr, ↓vNot, ↓vIf, ↓vT, ↓v2, ↓vLc, ↓gI2, ↓gI2c, ↓gLen, ↓gII, ↓gI, ↓gInt1, ↓gRep, ↓gCat, ↓gKids, ↓gIn, ↓iLst, ↓TL.iTup, ↓TL.iRng1, ↓TL.iRng2, ↓iEn, ↓iZp, ↓hName, ↓hCons, ↓hNil, ↓hTup, ↓wSl, ↓wIsi, ↓wYes, rho0, iniE, entOf, allSh, List.replicate, List.length_cons, List.length_nil, Nat.reduceAdd, Nat.reduceSub, Nat.reduceLT, Nat.reduceLeDiff, List.cons_append, List.nil_append, List.getElem?_cons_zero, List.getElem?_cons_succ, Option.bind_some, Ent.tr, Ent.own, Ent.put, setE, killA, noAl_ow, noAl_io1, noAl_no, noAl_ro, noAl_al', killJ_cons, killJ_nil0, noRo_ow, noRo_io, noRo_no, noRo_al, mem1, notIn, noRA_ow, noRA_io, noRA_no, noRA_al, Plc, demE, List.foldl_cons, List.foldl_nil, List.map_cons, List.map_nil, List.set_cons_zero, List.set_cons_succ, endsOf, ↓outsOf, Option.map_some, plSet, TL.putAt, T.put, true_and, and_true, lst_set, lst_snoc, lm_set, lm_snoc, shOnly, shE_ow0, shE_ow1, shE_io, shE_no, Option.isSome_some, reduceIte, if_true, if_false, Bool.false_eq_true, Nat.reduceEqDiff]
  have hz : ∀ x ∈ cl, 0 ≤ x := fun x hx => (h2 x hx).1
  refine ⟨rfl, cl, rfl, h0, fun m hm hmx => ⟨rfl, ?_⟩⟩
  have e0 := capS_zero hz
  have e1 := capS_top hmx
  have m0 : 0 < m := by
    have := @capS_mono cl m 0
    omega
  refine ⟨fun n ρ => ∃ lo hi x5 x6 x7 x8 x9, ρ = [Ent.ow 0 (Li cl), Ent.ow 0 (Li (zs cl)), Ent.ow 0 (T.int c), Ent.ow 0 (T.int lo), Ent.ow 0 (T.int hi), x5, x6, x7, x8, x9] ∧ 0 ≤ lo ∧ lo < hi ∧ capS cl lo ≤ c ∧ c < capS cl hi ∧ n = (hi - lo).toNat,
    ⟨_, 0, m, _, _, _, _, _, rfl, by omega, m0, by omega, by omega, rfl⟩, fun n ρ hI => ?_⟩
  obtain ⟨lo, hi, x5, x6, x7, x8, x9, rfl, g1, g2, g3, g4, rfl⟩ := hI
  simp -dsimp only [↓uSeq, ↓uNext, ↓uFor, ↓uSt, ↓uStV, ↓uAu, ↓uAp, ↓uApMv, ↓uAuN, ↓uAlias, ↓uDem, ↓uBrk, ↓uCnt, ↓uNev, ↓uRet, ↓uRetN, ↓uExp, ↓uExpP, ↓uSet, ↓uSetR, ↓uIf, ↓wVar, ↓wVarV, ↓wC, ↓w1, ↓w2, ↓wT, asB, ↓wChain, ↓wNil, ↓wCons, ↓wAnd, ↓wOr, ↓wNot, ↓wAndV, ↓wOrV, ↓wNotV, ↓wIf, ↓wCallP, ↓wCallV, ↓wCa, ↓wTup, ↓wLst, ↓oNon, ↓oSom, ↓wSlice, ↓wRev, ↓vP, ↓vSh, ↓vFit, ↓vaNil, ↓vaCons, ↓vLst, ↓vTup, ↓vTup0, ↓vList, ↓vRep, ↓vSlice, ↓cSl, ↓vCallN, ↓v1, ↓vCa, ↓vIx, ↓tP, ↓vAnd, ↓vOr, ↓vNot, ↓vIf, ↓vT, ↓v2, ↓vLc, ↓gI2, ↓gI2c, ↓gLen, ↓gII, ↓gI, ↓gInt1, ↓gRep, ↓gCat, ↓gKids, ↓gIn, ↓iLst, ↓TL.iTup, ↓TL.iRng1, ↓TL.iRng2, ↓iEn, ↓iZp, ↓hName, ↓hCons, ↓hNil, ↓hTup, ↓wSl, ↓wIsi, ↓wYes, rho0, iniE, entOf, allSh, List.replicate, List.length_cons, List.length_nil, Nat.reduceAdd, Nat.reduceSub, Nat.reduceLT, Nat.reduceLeDiff, List.cons_append, List.nil_append, List.getElem?_cons_zero, List.getElem?_cons_succ, Option.bind_some, Ent.tr, Ent.own, Ent.put, setE, killA, noAl_ow, noAl_io1, noAl_no, noAl_ro, noAl_al', killJ_cons, killJ_nil0, noRo_ow, noRo_io, noRo_no, noRo_al, mem1, notIn, noRA_ow, noRA_io, noRA_no, noRA_al, Plc, demE, List.foldl_cons, List.foldl_nil, List.map_cons, List.map_nil, List.set_cons_zero, List.set_cons_succ, endsOf, ↓outsOf, Option.map_some, plSet, TL.putAt, T.put, true_and, and_true, lst_set, lst_snoc, lm_set, lm_snoc, shOnly, shE_ow0, shE_ow1, shE_io, shE_no, Option.isSome_some, reduceIte, if_true, if_false, Bool.false_eq_true, Nat.reduceEqDiff]
  refine ifS (fun e => ?_) (fun e => ?_)
  · have e := of_decide_eq_true e
    refine ⟨⟨by decide, by decide⟩, rfl, cl, zs cl, (lo + hi) / 2, rfl, by omega, zs_len, _, rfl, ?_⟩
    rw [raised_zs hz (by omega)]
    refine ifS (fun q => ?_) (fun q => ?_)
    · have q := of_decide_eq_true q
      exact ⟨rfl, _, by omega, _, _, _, _, _, _, _, rfl, by omega, by omega, q, g4, rfl⟩
    · have q : ¬ capS cl ((lo + hi) / 2) ≤ c := fun z => q (decide_eq_true z)
      exact ⟨rfl, _, by omega, _, _, _, _, _, _, _, rfl, g1, by omega, g3, by omega, rfl⟩
  · have e : ¬ 1 < hi - lo := fun z => e (decide_eq_true z)
    have hhi : hi = lo + 1 := by omega
    subst hhi
    have fin := h lo ⟨g1, g3, g4⟩
    refine ⟨cl, zs cl, lo, rfl, by omega, zs_len, flatAt_Li, ?_⟩
    rw [raised_zs hz g1]
    refine ⟨_, rfl, rfl, fit0, ?_⟩
    refine ⟨fun i ρ => ∃ ad lf x7 x8 x9, ρ = [Ent.ow 0 (Li cl), Ent.ow 0 (Li (zs cl)), Ent.ow 0 (T.int c), Ent.ow 0 (T.int lo), Ent.ow 0 (T.int (lo + 1)), Ent.ow 1 (Li ad), Ent.ow 0 (T.int lf), x7, x8, x9] ∧ ad = (fill cl lo (c - capS cl lo)).take i ++ (cl.map fun c => min c lo).drop i ∧ lf = leftAt cl lo (c - capS cl lo) i,
      ⟨_, _, _, _, _, rfl, half_zero.symm, by cases cl <;> rfl⟩, fun i t ρ hi hI => ?_, fun ρ hI => ?_⟩
    · obtain ⟨ad, lf, x7, x8, x9, rfl, ha, hb⟩ := hI
      obtain ⟨u, hu, rfl⟩ := enT_get.mp hi
      obtain ⟨x, hx, rfl⟩ := mapint_get.mp hu
      have il := (List.getElem?_eq_some_iff.mp hx).1
      have hzx : (zs cl)[i]? = some 0 := by unfold zs; rw [List.getElem?_replicate, if_pos il]
      obtain ⟨s1, s2⟩ := leftAt_step (lv := lo) (left := c - capS cl lo) hx
      have hla : ad[i]? = some (min x lo) := by rw [ha]; exact half_get hx
      have hlen2 : ad.length = cl.length := by rw [ha]; exact half_len (Nat.le_of_lt il)
      have hq : ixN (List.map T.int ad).length (i : Int) = some i := ixN_nat (by rw [List.length_map, hlen2]; exact il)
      have ho : (List.map T.int ad)[i]? = some (T.int (min x lo)) := mapint_get.mpr ⟨_, hla, rfl⟩
      have hst : ∀ v, v = (if leftAt cl lo (c - capS cl lo) i > 0 ∧ x > lo then min x lo + 1 else min x lo) → ad.set i v = (fill cl lo (c - capS cl lo)).take (i + 1) ++ (cl.map fun c => min c lo).drop (i + 1) := fun v hv => by rw [fill_half hx, hv, ha]
      have hsame : ¬ (leftAt cl lo (c - capS cl lo) i > 0 ∧ x > lo) → ad = (fill cl lo (c - capS cl lo)).take (i + 1) ++ (cl.map fun c => min c lo).drop (i + 1) ∧ lf = leftAt cl lo (c - capS cl lo) (i + 1) := fun z => by
        refine ⟨?_, by rw [s1, if_neg z, hb]⟩
        rw [← hst (min x lo) (by rw [if_neg z]), set_self hla]
      simp -dsimp only [hq, ho, ↓uSeq, ↓uNext, ↓uFor, ↓uSt, ↓uStV, ↓uAu, ↓uAp, ↓uApMv, ↓uAuN, ↓uAlias, ↓uDem, ↓uBrk, ↓uCnt, ↓uNev, ↓uRet, ↓uRetN, ↓uExp, ↓uExpP, ↓uSet, ↓uSetR, ↓uIf, ↓wVar, ↓wVarV, ↓wC, ↓w1, ↓w2, ↓wT, asB, ↓wChain, ↓wNil, ↓wCons, ↓wAnd, ↓wOr, ↓wNot, ↓wAndV, ↓wOrV, ↓wNotV, ↓wIf, ↓wCallP, ↓wCallV, ↓wCa, ↓wTup, ↓wLst, ↓oNon, ↓oSom, ↓wSlice, ↓wRev, ↓vP, ↓vSh, ↓vFit, ↓vaNil, ↓vaCons, ↓vLst, ↓vTup, ↓vTup0, ↓vList, ↓vRep, ↓vSlice, ↓cSl, ↓vCallN, ↓v1, ↓vCa, ↓vIx, ↓tP, ↓vAnd, ↓vOr, ↓vNot, ↓vIf, ↓vT, ↓v2, ↓vLc, ↓gI2, ↓gI2c, ↓gLen, ↓gII, ↓gI, ↓gInt1, ↓gRep, ↓gCat, ↓gKids, ↓gIn, ↓iLst, ↓TL.iTup, ↓TL.iRng1, ↓TL.iRng2, ↓iEn, ↓iZp, ↓hName, ↓hCons, ↓hNil, ↓hTup, ↓wSl, ↓wIsi, ↓wYes, rho0, iniE, entOf, allSh, List.replicate, List.length_cons, List.length_nil, Nat.reduceAdd, Nat.reduceSub, Nat.reduceLT, Nat.reduceLeDiff, List.cons_append, List.nil_append, List.getElem?_cons_zero, List.getElem?_cons_succ, Option.bind_some, Ent.tr, Ent.own, Ent.put, setE, killA, noAl_ow, noAl_io1, noAl_no, noAl_ro, noAl_al', killJ_cons, killJ_nil0, noRo_ow, noRo_io, noRo_no, noRo_al, mem1, notIn, noRA_ow, noRA_io, noRA_no, noRA_al, Plc, demE, List.foldl_cons, List.foldl_nil, List.map_cons, List.map_nil, List.set_cons_zero, List.set_cons_succ, endsOf, ↓outsOf, Option.map_some, plSet, TL.putAt, T.put, true_and, and_true, lst_set, lst_snoc, lm_set, lm_snoc, shOnly, shE_ow0, shE_ow1, shE_io, shE_no, Option.isSome_some, reduceIte, if_true, if_false, Bool.false_eq_true, Nat.reduceEqDiff]
      refine ifS (fun q => ?_) (fun q => ?_)
      · have q := of_decide_eq_true q
        refine gIx_Li hzx (ifT (decide_eq_true g1) ?_)
        refine ifS (fun q2 => ?_) (fun q2 => ?_)
        · have q2 := of_decide_eq_true q2
          exact ⟨rfl, ad.set i (min x lo + 1), _, _, _, _, rfl, hst _ (by rw [if_pos ⟨hb ▸ q, q2⟩]), by rw [s1, if_pos ⟨hb ▸ q, q2⟩, ← hb]⟩
        · have q2 : ¬ lo < x := fun z => q2 (decide_eq_true z)
          obtain ⟨z1, z2⟩ := hsame fun z => q2 z.2
          exact ⟨_, _, _, _, _, rfl, z1, z2⟩
      · have q : ¬ 0 < lf := fun z => q (decide_eq_true z)
        obtain ⟨z1, z2⟩ := hsame fun z => q (hb ▸ z.1)
        exact ⟨_, _, _, _, _, rfl, z1, z2⟩
    · obtain ⟨ad, lf, x7, x8, x9, rfl, ha, hb⟩ := hI
      have el : (enT (List.map T.int cl)).length = cl.length := by unfold enT; simp
      rw [el, half_end] at ha
      subst ha
      simp -dsimp only [↓uSeq, ↓uNext, ↓uFor, ↓uSt, ↓uStV, ↓uAu, ↓uAp, ↓uApMv, ↓uAuN, ↓uAlias, ↓uDem, ↓uBrk, ↓uCnt, ↓uNev, ↓uRet, ↓uRetN, ↓uExp, ↓uExpP, ↓uSet, ↓uSetR, ↓uIf, ↓wVar, ↓wVarV, ↓wC, ↓w1, ↓w2, ↓wT, asB, ↓wChain, ↓wNil, ↓wCons, ↓wAnd, ↓wOr, ↓wNot, ↓wAndV, ↓wOrV, ↓wNotV, ↓wIf, ↓wCallP, ↓wCallV, ↓wCa, ↓wTup, ↓wLst, ↓oNon, ↓oSom, ↓wSlice, ↓wRev, ↓vP, ↓vSh, ↓vFit, ↓vaNil, ↓vaCons, ↓vLst, ↓vTup, ↓vTup0, ↓vList, ↓vRep, ↓vSlice, ↓cSl, ↓vCallN, ↓v1, ↓vCa, ↓vIx, ↓tP, ↓vAnd, ↓vOr, ↓vNot, ↓vIf, ↓vT, ↓v2, ↓vLc, ↓gI2, ↓gI2c, ↓gLen, ↓gII, ↓gI, ↓gInt1, ↓gRep, ↓gCat, ↓gKids, ↓gIn, ↓iLst, ↓TL.iTup, ↓TL.iRng1, ↓TL.iRng2, ↓iEn, ↓iZp, ↓hName, ↓hCons, ↓hNil, ↓hTup, ↓wSl, ↓wIsi, ↓wYes, rho0, iniE, entOf, allSh, List.replicate, List.length_cons, List.length_nil, Nat.reduceAdd, Nat.reduceSub, Nat.reduceLT, Nat.reduceLeDiff, List.cons_append, List.nil_append, List.getElem?_cons_zero, List.getElem?_cons_succ, Option.bind_some, Ent.tr, Ent.own, Ent.put, setE, killA, noAl_ow, noAl_io1, noAl_no, noAl_ro, noAl_al', killJ_cons, killJ_nil0, noRo_ow, noRo_io, noRo_no, noRo_al, mem1, notIn, noRA_ow, noRA_io, noRA_no, noRA_al, Plc, demE, List.foldl_cons, List.foldl_nil, List.map_cons, List.map_nil, List.set_cons_zero, List.set_cons_succ, endsOf, ↓outsOf, Option.map_some, plSet, TL.putAt, T.put, true_and, and_true, lst_set, lst_snoc, lm_set, lm_snoc, shOnly, shE_ow0, shE_ow1, shE_io, shE_no, Option.isSome_some, reduceIte, if_true, if_false, Bool.false_eq_true, Nat.reduceEqDiff]
      exact fin
end
end K94
set_option Elab.async false
set_option linter.all false
set_option maxRecDepth 100000
namespace K94
open PySem PySem.Spec PyProof.Rows L2 TL
def lvlN (cl : List Int) (c : Int) : Nat → Int
  | 0 => 0
  | n + 1 => if capS cl ((n : Int) + 1) ≤ c then (n : Int) + 1 else lvlN cl c n
def lawLevel (cl : List Int) (c : Int) : List Int := fill cl (lvlN cl c 41) (c - capS cl (lvlN cl c 41))
theorem lvlN_min {cl : List Int} {c lv : Int} (h : IsLev cl c lv) : ∀ n : Nat, lvlN cl c n = min lv n
  | 0 => by
    have := h.1
    show (0 : Int) = min lv ((0 : Nat) : Int)
    omega
  | n + 1 => by
    unfold lvlN
    rw [lvlN_min h n]
    by_cases q : capS cl ((n : Int) + 1) ≤ c
    · rw [if_pos q]
      have : (n : Int) + 1 ≤ lv := by
        by_cases z : (n : Int) + 1 ≤ lv
        · exact z
        · have := @capS_mono cl (lv + 1) ((n : Int) + 1) (by omega)
          have := h.2.2
          omega
      omega
    · rw [if_neg q]
      have : ¬ (n : Int) + 1 ≤ lv := fun z => by
        have := @capS_mono cl ((n : Int) + 1) lv z
        have := h.2.1
        omega
      omega
theorem lev_eq {cl : List Int} {c lv : Int} (h : IsLev cl c lv) (h2 : ∀ x ∈ cl, x ≤ 40) (h3 : c < cl.sum) : lvlN cl c 41 = lv := by
  rw [lvlN_min h]
  have : lv ≤ 40 := by
    by_cases z : lv ≤ 40
    · exact z
    · have e := @capS_mono cl 40 lv (by omega)
      rw [capS_top h2] at e
      have := h.2.1
      omega
  omega
theorem fill_top : ∀ {cl : List Int} {lv left : Int}, (∀ x ∈ cl, x ≤ lv) → fill cl lv left = cl
  | [], _, _, _ => rfl
  | c :: cl, lv, left, h => by
    have := h c List.mem_cons_self
    unfold fill
    rw [if_neg (by omega), fill_top fun x hx => h x (List.mem_cons_of_mem _ hx), show min c lv = c by omega]
theorem lev_full {cl : List Int} {c : Int} (h2 : ∀ x ∈ cl, x ≤ 40) (h3 : cl.sum ≤ c) : lawLevel cl c = cl := by
  have h4 : ∀ x ∈ cl, x ≤ 41 := fun x hx => by have := h2 x hx; omega
  have e : lvlN cl c 41 = 41 := by
    show (if capS cl (((40 : Nat) : Int) + 1) ≤ c then ((40 : Nat) : Int) + 1 else lvlN cl c 40) = 41
    rw [if_pos (by rw [capS_top (by simpa using h4)]; exact h3)]; rfl
  unfold lawLevel
  rw [e]
  exact fill_top h4
theorem sub_zs {cl : List Int} {i : Nat} {x y : Int} (h : cl[i]? = some x) (h2 : (zs cl)[i]? = some y) : y = 0 := by
  unfold zs at h2
  rw [List.getElem?_replicate] at h2
  split at h2
  · exact (Option.some.inj h2).symm
  · cases h2
section
variable {P : Program} {w : World} {K : PySem.W.Frag} {mg : Str → Option Value} {base : Heap}
def W_share : FnT := fun ts R => ∃ (cl : List Int) (c : Int), ts = [.str "level", Li cl, Li (zs cl), .int c] ∧ 0 < cl.length ∧ cl.length ≤ 40 ∧ (∀ x ∈ cl, 0 ≤ x ∧ x ≤ 40) ∧ 0 ≤ c ∧ c ≤ 1000000000000000 ∧ R 1 (Li (lawLevel cl c)) []
theorem ok_share {k : Nat} (G : Gs K mg) : FnOk P w K mg base CX0 (k + 3) G.g_share.f G.g_share.d ["rule", "claims", "got", "coins"] (spT K (allSh 4) W_share) := by
  refine fnT (k := k + 2) G.g_share.F sc_share rfl (fun X cdv A outer s H E hX hr => ?_)
  subst hX
  refine ⟨_, (ts_cons (ts_expr (tv_p (tp_call (ok_check_share (k := k + 0) G) hr (by rfl) G.g_check_share.g G.g_check_share.F.kp G.g_check_share.b (tpa_cons (tp_var 0) (tpa_cons (tp_var 1) (tpa_cons (tp_var 2) (tpa_cons (tp_var 3) tpa_nil)))))))
      (ts_cons (ts_setLc (i := 4) (hc := rfl) (hN := sc_share.nd) (hy := rfl) (hyl := rfl) (hsw := sw_true rfl rfl rfl (by decide +kernel)) (own := [("claim", 5), ("received", 6)]) (k := 0) (js := [5, 6]) (hi := (ti_zip (by rfl) G.z_zip (tva_cons 0 (tv_var 1) (tva_cons 0 (tv_var 2) tva_nil)))) (ok := (blkOk_by (N := ["rule", "claims", "got", "coins", "opens", "claim", "received"]) (sc := defScope s_share) (by decide +kernel))) (hg := fun _ _ _ _ _ => (tg_tup rfl (tgs_cons (tg_name 5 sc_share.nd rfl (.inl rfl)) (tgs_cons (tg_name 6 sc_share.nd rfl (.inl rfl)) tgs_nil)) h2_len)) (ht := fun _ _ _ _ _ => tvts_nil) (he := fun _ _ _ _ _ => (tv_p (tp_op op_sub opT_int (tp_var 5) (tp_var 6)))) (hj := by decide))
      (ts_cons (ts_if (tvt_p (tpt_cmp op_ge opT_bl (tp_var 3) (tp_callB (cr_sum rfl) caT_sum (by rfl) G.z_sum (by decide +kernel) (tpa_cons (tp_var 4) tpa_nil)) (nomark _))) (ts_one (ts_ret (tv_var 4))) ts_nil)
      (ts_cons (ts_if (tvt_p (tpt_cmp op_eq opT_eqS (tp_var 0) tp_str (nomark _))) (ts_one (ts_ret (tv_callN (ok_level_share (k := k + 0) G) hr (by rfl) G.g_level_share.g G.g_level_share.F.kp G.g_level_share.b (tpa_cons (tp_var 1) (tpa_cons (tp_var 2) (tpa_cons (tp_var 3) tpa_nil)))))) ts_nil)
      (ts_cons ts_never
      (ts_one ts_never)))))), fun ts R hW hlen => ?_⟩

  obtain ⟨cl, c, rfl, h0, h1, h2, h3, h4, h⟩ := hW
  have h40 : ∀ x ∈ cl, x ≤ 40 := fun x hx => (h2 x hx).2
  simp -dsimp only [↓uSeq, ↓uNext, ↓uFor, ↓uSt, ↓uStV, ↓uAu, ↓uAp, ↓uApMv, ↓uAuN, ↓uAlias, ↓uDem, ↓uBrk, ↓uCnt, ↓uNev, ↓uRet, ↓uRetN, ↓uExp, ↓uExpP, ↓uSet, ↓uSetR, ↓uIf, ↓wVar, ↓wVarV, ↓wC, ↓w1, ↓w2, ↓wT, asB, ↓wChain, ↓wNil, ↓wCons, ↓wAnd, ↓wOr, ↓wNot, ↓wAndV, ↓wOrV, ↓wNotV, ↓wIf, ↓wCallP, ↓wCallV, ↓wCa, ↓wTup, ↓wLst, ↓oNon, ↓oSom, ↓wSlice, ↓wRev, ↓vP, ↓vSh, ↓vFit, ↓vaNil, ↓vaCons, ↓vLst, ↓vTup, ↓vTup0, ↓vList, ↓vRep, ↓vSlice, ↓cSl, ↓vCallN, ↓v1, ↓vCa, ↓vIx, ↓tP, ↓vAnd, ↓vOr, ↓vNot, ↓vIf, ↓vT, ↓v2, ↓vLc, ↓gI2, ↓gI2c, ↓gLen, ↓gII, ↓gI, ↓gInt1, ↓gRep, ↓gCat, ↓gKids, ↓gIn, ↓iLst, ↓TL.iTup, ↓TL.iRng1, ↓TL.iRng2, ↓iEn, ↓iZp, ↓hName, ↓hCons, ↓hNil, ↓hTup, ↓wSl, ↓wIsi, ↓wYes, rho0, iniE, entOf, allSh, List.replicate, List.length_cons, List.length_nil, Nat.reduceAdd, Nat.reduceSub, Nat.reduceLT, Nat.reduceLeDiff, List.cons_append, List.nil_append, List.getElem?_cons_zero, List.getElem?_cons_succ, Option.bind_some, Ent.tr, Ent.own, Ent.put, setE, killA, noAl_ow, noAl_io1, noAl_no, noAl_ro, noAl_al', killJ_cons, killJ_nil0, noRo_ow, noRo_io, noRo_no, noRo_al, mem1, notIn, noRA_ow, noRA_io, noRA_no, noRA_al, Plc, demE, List.foldl_cons, List.foldl_nil, List.map_cons, List.map_nil, List.set_cons_zero, List.set_cons_succ, endsOf, ↓outsOf, Option.map_some, plSet, TL.putAt, T.put, true_and, and_true, lst_set, lst_snoc, lm_set, lm_snoc, shOnly, shE_ow0, shE_ow1, shE_io, shE_no, Option.isSome_some, reduceIte, if_true, if_false, Bool.false_eq_true, Nat.reduceEqDiff]
  refine ⟨cl, zs cl, c, rfl, h1, zs_len, fun x hx => ⟨(h2 x hx).1, by have := (h2 x hx).2; omega⟩, fun i x y hx hy => ?_, h3, h4, rfl, ?_⟩
  · have := sub_zs hx hy
    subst this
    exact ⟨Int.le_refl _, (h2 x (List.mem_of_getElem? hx)).1⟩
  refine ⟨fit0, fit0, fun i acc ρ => ∃ as, acc = List.map T.int as ∧ as = cl.take i ∧ ρ = [Ent.ow 0 (T.str "level"), Ent.ow 0 (Li cl), Ent.ow 0 (Li (zs cl)), Ent.ow 0 (T.int c), Ent.no, Ent.no, Ent.no], ⟨[], rfl, rfl, rfl⟩, fun i t acc ρ hi hI => ?_, fun acc ρ hI => ?_⟩
  · obtain ⟨as, rfl, ha, rfl⟩ := hI
    obtain ⟨a, b, ha2, hb, rfl⟩ := zpT_get.mp hi
    obtain ⟨x, hx, rfl⟩ := mapint_get.mp ha2
    obtain ⟨y, hy, rfl⟩ := mapint_get.mp hb
    have := sub_zs hx hy
    subst this
    simp -dsimp only [↓uSeq, ↓uNext, ↓uFor, ↓uSt, ↓uStV, ↓uAu, ↓uAp, ↓uApMv, ↓uAuN, ↓uAlias, ↓uDem, ↓uBrk, ↓uCnt, ↓uNev, ↓uRet, ↓uRetN, ↓uExp, ↓uExpP, ↓uSet, ↓uSetR, ↓uIf, ↓wVar, ↓wVarV, ↓wC, ↓w1, ↓w2, ↓wT, asB, ↓wChain, ↓wNil, ↓wCons, ↓wAnd, ↓wOr, ↓wNot, ↓wAndV, ↓wOrV, ↓wNotV, ↓wIf, ↓wCallP, ↓wCallV, ↓wCa, ↓wTup, ↓wLst, ↓oNon, ↓oSom, ↓wSlice, ↓wRev, ↓vP, ↓vSh, ↓vFit, ↓vaNil, ↓vaCons, ↓vLst, ↓vTup, ↓vTup0, ↓vList, ↓vRep, ↓vSlice, ↓cSl, ↓vCallN, ↓v1, ↓vCa, ↓vIx, ↓tP, ↓vAnd, ↓vOr, ↓vNot, ↓vIf, ↓vT, ↓v2, ↓vLc, ↓gI2, ↓gI2c, ↓gLen, ↓gII, ↓gI, ↓gInt1, ↓gRep, ↓gCat, ↓gKids, ↓gIn, ↓iLst, ↓TL.iTup, ↓TL.iRng1, ↓TL.iRng2, ↓iEn, ↓iZp, ↓hName, ↓hCons, ↓hNil, ↓hTup, ↓wSl, ↓wIsi, ↓wYes, rho0, iniE, entOf, allSh, List.replicate, List.length_cons, List.length_nil, Nat.reduceAdd, Nat.reduceSub, Nat.reduceLT, Nat.reduceLeDiff, List.cons_append, List.nil_append, List.getElem?_cons_zero, List.getElem?_cons_succ, Option.bind_some, Ent.tr, Ent.own, Ent.put, setE, killA, noAl_ow, noAl_io1, noAl_no, noAl_ro, noAl_al', killJ_cons, killJ_nil0, noRo_ow, noRo_io, noRo_no, noRo_al, mem1, notIn, noRA_ow, noRA_io, noRA_no, noRA_al, Plc, demE, List.foldl_cons, List.foldl_nil, List.map_cons, List.map_nil, List.set_cons_zero, List.set_cons_succ, endsOf, ↓outsOf, Option.map_some, plSet, TL.putAt, T.put, true_and, and_true, lst_set, lst_snoc, lm_set, lm_snoc, shOnly, shE_ow0, shE_ow1, shE_io, shE_no, Option.isSome_some, reduceIte, if_true, if_false, Bool.false_eq_true, Nat.reduceEqDiff]
    refine ⟨rfl, .inr rfl, ?_, as ++ [x - 0], ?_, ?_⟩
    · subst ha; simp; omega
    · rw [List.map_append]; rfl
    · rw [Int.sub_zero, ha, take_snoc hx]
  · obtain ⟨as, rfl, ha, rfl⟩ := hI
    have el : (zpT (List.map T.int cl) (List.map T.int (zs cl))).length = cl.length := by unfold zpT; simp [zs_len]
    rw [el, take_len] at ha
    subst ha
    simp -dsimp only [↓uSeq, ↓uNext, ↓uFor, ↓uSt, ↓uStV, ↓uAu, ↓uAp, ↓uApMv, ↓uAuN, ↓uAlias, ↓uDem, ↓uBrk, ↓uCnt, ↓uNev, ↓uRet, ↓uRetN, ↓uExp, ↓uExpP, ↓uSet, ↓uSetR, ↓uIf, ↓wVar, ↓wVarV, ↓wC, ↓w1, ↓w2, ↓wT, asB, ↓wChain, ↓wNil, ↓wCons, ↓wAnd, ↓wOr, ↓wNot, ↓wAndV, ↓wOrV, ↓wNotV, ↓wIf, ↓wCallP, ↓wCallV, ↓wCa, ↓wTup, ↓wLst, ↓oNon, ↓oSom, ↓wSlice, ↓wRev, ↓vP, ↓vSh, ↓vFit, ↓vaNil, ↓vaCons, ↓vLst, ↓vTup, ↓vTup0, ↓vList, ↓vRep, ↓vSlice, ↓cSl, ↓vCallN, ↓v1, ↓vCa, ↓vIx, ↓tP, ↓vAnd, ↓vOr, ↓vNot, ↓vIf, ↓vT, ↓v2, ↓vLc, ↓gI2, ↓gI2c, ↓gLen, ↓gII, ↓gI, ↓gInt1, ↓gRep, ↓gCat, ↓gKids, ↓gIn, ↓iLst, ↓TL.iTup, ↓TL.iRng1, ↓TL.iRng2, ↓iEn, ↓iZp, ↓hName, ↓hCons, ↓hNil, ↓hTup, ↓wSl, ↓wIsi, ↓wYes, rho0, iniE, entOf, allSh, List.replicate, List.length_cons, List.length_nil, Nat.reduceAdd, Nat.reduceSub, Nat.reduceLT, Nat.reduceLeDiff, List.cons_append, List.nil_append, List.getElem?_cons_zero, List.getElem?_cons_succ, Option.bind_some, Ent.tr, Ent.own, Ent.put, setE, killA, noAl_ow, noAl_io1, noAl_no, noAl_ro, noAl_al', killJ_cons, killJ_nil0, noRo_ow, noRo_io, noRo_no, noRo_al, mem1, notIn, noRA_ow, noRA_io, noRA_no, noRA_al, Plc, demE, List.foldl_cons, List.foldl_nil, List.map_cons, List.map_nil, List.set_cons_zero, List.set_cons_succ, endsOf, ↓outsOf, Option.map_some, plSet, TL.putAt, T.put, true_and, and_true, lst_set, lst_snoc, lm_set, lm_snoc, shOnly, shE_ow0, shE_ow1, shE_io, shE_no, Option.isSome_some, reduceIte, if_true, if_false, Bool.false_eq_true, Nat.reduceEqDiff]
    refine ⟨as, rfl, ?_⟩
    refine ifS (fun q => ?_) (fun q => ?_)
    · rw [lev_full h40 (of_decide_eq_true q)] at h
      exact h
    · have q : ¬ as.sum ≤ c := fun z => q (decide_eq_true z)
      refine ifT (by decide +kernel) ⟨as, c, rfl, h0, h1, h2, h3, by omega, fun lv hl => ⟨flatAt_Li, ?_⟩⟩
      have e := lev_eq hl h40 (by omega)
      unfold lawLevel at h
      rw [e] at h
      exact h
/-! ### the next plan -/
def addV (xs ys : List Int) : List Int := List.zipWith (fun x y => x + y) xs ys
def haveF : List (List Int) → List Int → List Int → List Int
  | row :: m, p :: ps, acc => haveF m ps (addV acc (lawLevel row p))
  | _, _, acc => acc
def afterF (m : List (List Int)) (own plan : List Int) : List Int := List.zipWith (fun row h => if h < row.sum then h else row.sum) m (haveF m plan own)
structure Okm (m : List (List Int)) (own : List Int) : Prop where
  n0 : 0 < own.length
  n6 : own.length ≤ 6
  len : m.length = own.length
  row : ∀ r ∈ m, r.length = own.length ∧ ∀ x ∈ r, 0 ≤ x ∧ x ≤ 40
  sm : ∀ r ∈ m, r.sum ≤ 200
theorem lawLevel_len {cl : List Int} {c : Int} : (lawLevel cl c).length = cl.length := fill_len _ _ _
theorem addV_len {xs ys : List Int} : (addV xs ys).length = min xs.length ys.length := by unfold addV; simp
/-- half way -/
theorem haveF_take : ∀ (m : List (List Int)) (p acc : List Int) (i : Nat) (r : List Int) (c : Int), m[i]? = some r → p[i]? = some c → haveF (m.take (i + 1)) (p.take (i + 1)) acc = addV (haveF (m.take i) (p.take i) acc) (lawLevel r c)
  | [], _, _, _, _, _, h, _ => by simp at h
  | _ :: _, [], _, _, _, _, _, h => by simp at h
  | r0 :: m, c0 :: p, acc, 0, r, c, h, h2 => by
    cases Option.some.inj h
    cases Option.some.inj h2
    simp [haveF]
  | r0 :: m, c0 :: p, acc, i + 1, r, c, h, h2 => by
    rw [List.getElem?_cons_succ] at h h2
    rw [List.take_succ_cons, List.take_succ_cons, List.take_succ_cons, List.take_succ_cons]
    unfold haveF
    exact haveF_take m p _ i r c h h2
/-- one row added, half way -/
theorem addV_half {xs ys : List Int} {i : Nat} {x y : Int} (h : xs.length = ys.length) (hx : xs[i]? = some x) (hy : ys[i]? = some y) : (((addV xs ys).take i) ++ xs.drop i).set i (x + y) = (addV xs ys).take (i + 1) ++ xs.drop (i + 1) := by
  have hi := (List.getElem?_eq_some_iff.mp hx).1
  have hl : ((addV xs ys).take i).length = i := by rw [List.length_take, addV_len]; omega
  rw [List.set_append_right _ _ (by omega), hl, Nat.sub_self]
  have e : xs.drop i = x :: xs.drop (i + 1) := by
    rw [List.drop_eq_getElem_cons hi]
    congr 1
    exact Option.some.inj ((List.getElem?_eq_getElem hi).symm.trans hx)
  have ea : (addV xs ys)[i]? = some (x + y) := by unfold addV; rw [List.getElem?_zipWith, hx, hy]
  rw [e, List.set_cons_zero, ← take_snoc ea, List.append_assoc]
  rfl
theorem addV_hget {xs ys : List Int} {i : Nat} {x : Int} (h : xs.length = ys.length) (hx : xs[i]? = some x) : ((addV xs ys).take i ++ xs.drop i)[i]? = some x := by
  have hi := (List.getElem?_eq_some_iff.mp hx).1
  have hl : ((addV xs ys).take i).length = i := by rw [List.length_take, addV_len]; omega
  rw [List.getElem?_append_right (by omega), hl, Nat.sub_self, List.getElem?_drop, Nat.add_zero, hx]
theorem addV_hlen {xs ys : List Int} {i : Nat} (h : xs.length = ys.length) (hi : i ≤ xs.length) : ((addV xs ys).take i ++ xs.drop i).length = xs.length := by
  rw [List.length_append, List.length_take, addV_len, List.length_drop]; omega
theorem addV_end {xs ys : List Int} (h : xs.length = ys.length) : (addV xs ys).take xs.length ++ xs.drop xs.length = addV xs ys := by
  have e : (addV xs ys).length = xs.length := by rw [addV_len]; omega
  rw [List.drop_length, List.append_nil, ← e]
  exact take_len
theorem haveF_len : ∀ {m : List (List Int)} {p acc : List Int}, (∀ r ∈ m, r.length = acc.length) → (haveF m p acc).length = acc.length
  | [], p, acc, _ => by cases p <;> rfl
  | _ :: _, [], acc, _ => rfl
  | r :: m, c :: p, acc, h => by
    have e : (addV acc (lawLevel r c)).length = acc.length := by
      rw [addV_len, lawLevel_len, h r List.mem_cons_self]; omega
    unfold haveF
    rw [haveF_len (m := m) fun q hq => by rw [e]; exact h q (List.mem_cons_of_mem _ hq)]
    exact e
theorem rep_zs {r : List Int} : (List.replicate (r.length : Int).toNat [T.int 0]).flatten = (zs r).map T.int := by
  unfold zs
  rw [List.map_replicate, Int.toNat_natCast]
  induction r.length with
  | zero => rfl
  | succ n ih => rw [List.replicate_succ, List.flatten_cons, ih]; rfl
theorem afterF_get {m : List (List Int)} {own plan r : List Int} {i : Nat} {f : Int} (h : m[i]? = some r) (h2 : (haveF m plan own)[i]? = some f) : (afterF m own plan)[i]? = some (if f < r.sum then f else r.sum) := by
  unfold afterF
  rw [List.getElem?_zipWith, h, h2]
def W_next_plan : FnT := fun ts R => ∃ (m : List (List Int)) (own plan : List Int), ts = [Lm m, Li own, Li plan] ∧ Okm m own ∧ plan.length = own.length ∧ (∀ p ∈ plan, 0 ≤ p ∧ p ≤ 1000000000000) ∧ R 1 (Li (afterF m own plan)) []
theorem ok_next_plan {k : Nat} (G : Gs K mg) : FnOk P w K mg base CX0 (k + 4) G.g_next_plan.f G.g_next_plan.d ["matrix", "own", "plan"] (spT K (allSh 3) W_next_plan) := by
  refine fnT (k := k + 3) G.g_next_plan.F sc_next_plan rfl (fun X cdv A outer s H E hX hr => ?_)
  subst hX
  refine ⟨_, (ts_cons (ts_set 3 sc_next_plan.nd rfl (.inr rfl) (tv_list (by rfl) G.z_list (tpa_cons (tp_var 1) tpa_nil)))
      (ts_cons (ts_for PassesOwn.never rfl (ti_enum (by rfl) G.z_enumerate (tva_cons 0 (tv_var 0) tva_nil)) (tg_tup rfl (tgs_cons (tg_name 4 sc_next_plan.nd rfl (.inl rfl)) (tgs_cons (tg_name 5 sc_next_plan.nd rfl (.inl rfl)) tgs_nil)) h2_len) (ts_cons (ts_set 6 sc_next_plan.nd rfl (.inl rfl) (tv_callN (ok_share (k := k + 0) G) hr (by rfl) G.g_share.g G.g_share.F.kp G.g_share.b (tpa_cons tp_str (tpa_cons (tp_var 5) (tpa_cons (tp_op op_rep opT_rep (tp_lst (tpa_cons tp_int tpa_nil)) (tp_callB call_len_seq caT_len (by rfl) G.z_len PySem.boot_len (tpa_cons (tp_var 5) tpa_nil))) (tpa_cons (tp_ix (tp_var 2) (tp_var 4) (fun _ _ => rfl)) tpa_nil))))))
      (ts_one (ts_for PassesOwn.never rfl (ti_enum (by rfl) G.z_enumerate (tva_cons 0 (tv_var 6) tva_nil)) (tg_tup rfl (tgs_cons (tg_name 7 sc_next_plan.nd rfl (.inl rfl)) (tgs_cons (tg_name 8 sc_next_plan.nd rfl (.inl rfl)) tgs_nil)) h2_len) (ts_one (ts_aug 3 ip_add (tp_var 7) (tp_var 8)))))))
      (ts_one (ts_ret (tv_lc (own := [("house", 4), ("debts", 5)]) 0 [4, 5] rfl sc_next_plan.nd (ti_enum (by rfl) G.z_enumerate (tva_cons 0 (tv_var 0) tva_nil)) (blkOk_by (N := ["matrix", "own", "plan", "funds", "house", "debts", "payments", "creditor", "coins"]) (sc := defScope s_next_plan) (by decide +kernel)) (fun _ _ _ _ _ => (tg_tup rfl (tgs_cons (tg_name 4 sc_next_plan.nd rfl (.inl rfl)) (tgs_cons (tg_name 5 sc_next_plan.nd rfl (.inl rfl)) tgs_nil)) h2_len)) (fun _ _ _ _ _ => tvts_nil) (fun _ _ _ _ _ => (tv_p (tp_callB (call_min2 rfl) caT_ii (by rfl) G.z_min (by decide +kernel) (tpa_cons (tp_callB (cr_sum rfl) caT_sum (by rfl) G.z_sum (by decide +kernel) (tpa_cons (tp_var 5) tpa_nil)) (tpa_cons (tp_ix (tp_var 3) (tp_var 4) (fun _ _ => rfl)) tpa_nil))))) (by decide)))))), fun ts R hW hlen => ?_⟩

  obtain ⟨m, own, plan, rfl, hm, hp, hp2, h⟩ := hW
  simp -dsimp only [↓uSeq, ↓uNext, ↓uFor, ↓uSt, ↓uStV, ↓uAu, ↓uAp, ↓uApMv, ↓uAuN, ↓uAlias, ↓uDem, ↓uBrk, ↓uCnt, ↓uNev, ↓uRet, ↓uRetN, ↓uExp, ↓uExpP, ↓uSet, ↓uSetR, ↓uIf, ↓wVar, ↓wVarV, ↓wC, ↓w1, ↓w2, ↓wT, asB, ↓wChain, ↓wNil, ↓wCons, ↓wAnd, ↓wOr, ↓wNot, ↓wAndV, ↓wOrV, ↓wNotV, ↓wIf, ↓wCallP, ↓wCallV, ↓wCa, ↓wTup, ↓wLst, ↓oNon, ↓oSom, ↓wSlice, ↓wRev, ↓vP, ↓vSh, ↓vFit, ↓vaNil, ↓vaCons, ↓vLst, ↓vTup, ↓vTup0, ↓vList, ↓vRep, ↓vSlice, ↓cSl, ↓vCallN, ↓v1, ↓vCa, ↓vIx, ↓tP, ↓vAnd, ↓vOr, ↓vNot, ↓vIf, ↓vT, ↓v2, ↓vLc, ↓gI2, ↓gI2c, ↓gLen, ↓gII, ↓gI, ↓gInt1, ↓gRep, ↓gCat, ↓gKids, ↓gIn, ↓iLst, ↓TL.iTup, ↓TL.iRng1, ↓TL.iRng2, ↓iEn, ↓iZp, ↓hName, ↓hCons, ↓hNil, ↓hTup, ↓wSl, ↓wIsi, ↓wYes, rho0, iniE, entOf, allSh, List.replicate, List.length_cons, List.length_nil, Nat.reduceAdd, Nat.reduceSub, Nat.reduceLT, Nat.reduceLeDiff, List.cons_append, List.nil_append, List.getElem?_cons_zero, List.getElem?_cons_succ, Option.bind_some, Ent.tr, Ent.own, Ent.put, setE, killA, noAl_ow, noAl_io1, noAl_no, noAl_ro, noAl_al', killJ_cons, killJ_nil0, noRo_ow, noRo_io, noRo_no, noRo_al, mem1, notIn, noRA_ow, noRA_io, noRA_no, noRA_al, Plc, demE, List.foldl_cons, List.foldl_nil, List.map_cons, List.map_nil, List.set_cons_zero, List.set_cons_succ, endsOf, ↓outsOf, Option.map_some, plSet, TL.putAt, T.put, true_and, and_true, lst_set, lst_snoc, lm_set, lm_snoc, shOnly, shE_ow0, shE_ow1, shE_io, shE_no, Option.isSome_some, reduceIte, if_true, if_false, Bool.false_eq_true, Nat.reduceEqDiff]
  have hrl : ∀ r ∈ m, r.length = own.length := fun r hr => (hm.row r hr).1
  have n6 := hm.n6
  have n0 := hm.n0
  refine ⟨flats_ints _, fit0, fun i ρ => ∃ fd x4 x5 x6 x7 x8, ρ = [Ent.ow 0 (Lm m), Ent.ow 0 (Li own), Ent.ow 0 (Li plan), Ent.ow 1 (Li fd), x4, x5, x6, x7, x8] ∧ fd = haveF (m.take i) (plan.take i) own,
    ⟨own, _, _, _, _, _, rfl, by cases m <;> rfl⟩, fun i t ρ hi hI => ?_, fun ρ hI => ?_⟩
  · obtain ⟨fd, x4, x5, x6, x7, x8, rfl, hf⟩ := hI
    obtain ⟨u, hu, rfl⟩ := enT_get.mp hi
    obtain ⟨r, hr, rfl⟩ := mapLi_get.mp hu
    have il := (List.getElem?_eq_some_iff.mp hr).1
    have ip : i < plan.length := by rw [hp, ← hm.len]; exact il
    have hc : plan[i]? = some plan[i] := List.getElem?_eq_getElem ip
    generalize plan[i] = c at hc
    obtain ⟨rl, rx⟩ := hm.row r (List.mem_of_getElem? hr)
    obtain ⟨c0, c1⟩ := hp2 c (List.mem_of_getElem? hc)
    have fl : fd.length = own.length := by rw [hf]; exact haveF_len fun q hq => hrl q (List.mem_of_mem_take hq)
    simp -dsimp only [↓uSeq, ↓uNext, ↓uFor, ↓uSt, ↓uStV, ↓uAu, ↓uAp, ↓uApMv, ↓uAuN, ↓uAlias, ↓uDem, ↓uBrk, ↓uCnt, ↓uNev, ↓uRet, ↓uRetN, ↓uExp, ↓uExpP, ↓uSet, ↓uSetR, ↓uIf, ↓wVar, ↓wVarV, ↓wC, ↓w1, ↓w2, ↓wT, asB, ↓wChain, ↓wNil, ↓wCons, ↓wAnd, ↓wOr, ↓wNot, ↓wAndV, ↓wOrV, ↓wNotV, ↓wIf, ↓wCallP, ↓wCallV, ↓wCa, ↓wTup, ↓wLst, ↓oNon, ↓oSom, ↓wSlice, ↓wRev, ↓vP, ↓vSh, ↓vFit, ↓vaNil, ↓vaCons, ↓vLst, ↓vTup, ↓vTup0, ↓vList, ↓vRep, ↓vSlice, ↓cSl, ↓vCallN, ↓v1, ↓vCa, ↓vIx, ↓tP, ↓vAnd, ↓vOr, ↓vNot, ↓vIf, ↓vT, ↓v2, ↓vLc, ↓gI2, ↓gI2c, ↓gLen, ↓gII, ↓gI, ↓gInt1, ↓gRep, ↓gCat, ↓gKids, ↓gIn, ↓iLst, ↓TL.iTup, ↓TL.iRng1, ↓TL.iRng2, ↓iEn, ↓iZp, ↓hName, ↓hCons, ↓hNil, ↓hTup, ↓wSl, ↓wIsi, ↓wYes, rho0, iniE, entOf, allSh, List.replicate, List.length_cons, List.length_nil, Nat.reduceAdd, Nat.reduceSub, Nat.reduceLT, Nat.reduceLeDiff, List.cons_append, List.nil_append, List.getElem?_cons_zero, List.getElem?_cons_succ, Option.bind_some, Ent.tr, Ent.own, Ent.put, setE, killA, noAl_ow, noAl_io1, noAl_no, noAl_ro, noAl_al', killJ_cons, killJ_nil0, noRo_ow, noRo_io, noRo_no, noRo_al, mem1, notIn, noRA_ow, noRA_io, noRA_no, noRA_al, Plc, demE, List.foldl_cons, List.foldl_nil, List.map_cons, List.map_nil, List.set_cons_zero, List.set_cons_succ, endsOf, ↓outsOf, Option.map_some, plSet, TL.putAt, T.put, true_and, and_true, lst_set, lst_snoc, lm_set, lm_snoc, shOnly, shE_ow0, shE_ow1, shE_io, shE_no, Option.isSome_some, reduceIte, if_true, if_false, Bool.false_eq_true, Nat.reduceEqDiff]
    rw [show (List.map T.int r).length = r.length from List.length_map _]
    refine ⟨by omega, by omega, by rw [Int.toNat_natCast]; omega, gIx_Li hc ?_⟩
    rw [rep_zs]
    refine ⟨r, c, rfl, by omega, by omega, rx, c0, by omega, flatAt_Li, fit0, ?_⟩
    refine ⟨fun j ρ => ∃ fe x6 x7 x8, ρ = [Ent.ow 0 (Lm m), Ent.ow 0 (Li own), Ent.ow 0 (Li plan), Ent.ow 1 (Li fe), Ent.ow 0 (T.int i), Ent.ow 0 (Li r), x6, x7, x8] ∧ fe = (addV fd (lawLevel r c)).take j ++ fd.drop j,
      ⟨fd, _, _, _, rfl, by simp⟩, fun j t ρ hj hJ => ?_, fun ρ hJ => ?_⟩
    · obtain ⟨fe, y6, y7, y8, rfl, hfe⟩ := hJ
      obtain ⟨u, hu, rfl⟩ := enT_get.mp hj
      obtain ⟨y, hy, rfl⟩ := mapint_get.mp hu
      have jl := (List.getElem?_eq_some_iff.mp hy).1
      rw [lawLevel_len] at jl
      have hfl : fd.length = (lawLevel r c).length := by rw [lawLevel_len]; omega
      have hx : fd[j]? = some (fd[j]'(by omega)) := List.getElem?_eq_getElem (by omega)
      generalize fd[j]'(by omega) = x at hx
      have hla : fe[j]? = some x := by rw [hfe]; exact addV_hget hfl hx
      have hq : ixN (List.map T.int fe).length (j : Int) = some j := ixN_nat (by rw [List.length_map, hfe, addV_hlen hfl (by omega)]; omega)
      have ho : (List.map T.int fe)[j]? = some (T.int x) := mapint_get.mpr ⟨_, hla, rfl⟩
      simp -dsimp only [hq, ho, ↓uSeq, ↓uNext, ↓uFor, ↓uSt, ↓uStV, ↓uAu, ↓uAp, ↓uApMv, ↓uAuN, ↓uAlias, ↓uDem, ↓uBrk, ↓uCnt, ↓uNev, ↓uRet, ↓uRetN, ↓uExp, ↓uExpP, ↓uSet, ↓uSetR, ↓uIf, ↓wVar, ↓wVarV, ↓wC, ↓w1, ↓w2, ↓wT, asB, ↓wChain, ↓wNil, ↓wCons, ↓wAnd, ↓wOr, ↓wNot, ↓wAndV, ↓wOrV, ↓wNotV, ↓wIf, ↓wCallP, ↓wCallV, ↓wCa, ↓wTup, ↓wLst, ↓oNon, ↓oSom, ↓wSlice, ↓wRev, ↓vP, ↓vSh, ↓vFit, ↓vaNil, ↓vaCons, ↓vLst, ↓vTup, ↓vTup0, ↓vList, ↓vRep, ↓vSlice, ↓cSl, ↓vCallN, ↓v1, ↓vCa, ↓vIx, ↓tP, ↓vAnd, ↓vOr, ↓vNot, ↓vIf, ↓vT, ↓v2, ↓vLc, ↓gI2, ↓gI2c, ↓gLen, ↓gII, ↓gI, ↓gInt1, ↓gRep, ↓gCat, ↓gKids, ↓gIn, ↓iLst, ↓TL.iTup, ↓TL.iRng1, ↓TL.iRng2, ↓iEn, ↓iZp, ↓hName, ↓hCons, ↓hNil, ↓hTup, ↓wSl, ↓wIsi, ↓wYes, rho0, iniE, entOf, allSh, List.replicate, List.length_cons, List.length_nil, Nat.reduceAdd, Nat.reduceSub, Nat.reduceLT, Nat.reduceLeDiff, List.cons_append, List.nil_append, List.getElem?_cons_zero, List.getElem?_cons_succ, Option.bind_some, Ent.tr, Ent.own, Ent.put, setE, killA, noAl_ow, noAl_io1, noAl_no, noAl_ro, noAl_al', killJ_cons, killJ_nil0, noRo_ow, noRo_io, noRo_no, noRo_al, mem1, notIn, noRA_ow, noRA_io, noRA_no, noRA_al, Plc, demE, List.foldl_cons, List.foldl_nil, List.map_cons, List.map_nil, List.set_cons_zero, List.set_cons_succ, endsOf, ↓outsOf, Option.map_some, plSet, TL.putAt, T.put, true_and, and_true, lst_set, lst_snoc, lm_set, lm_snoc, shOnly, shE_ow0, shE_ow1, shE_io, shE_no, Option.isSome_some, reduceIte, if_true, if_false, Bool.false_eq_true, Nat.reduceEqDiff]
      exact ⟨_, _, _, _, rfl, by rw [hfe]; exact addV_half hfl hx hy⟩
    · obtain ⟨fe, y6, y7, y8, rfl, hfe⟩ := hJ
      have el : (enT (List.map T.int (lawLevel r c))).length = fd.length := by unfold enT; simp [lawLevel_len]; omega
      rw [el, addV_end (by rw [lawLevel_len]; omega)] at hfe
      exact ⟨_, _, _, _, _, _, rfl, by rw [haveF_take m plan own i r c hr hc, ← hf]; exact hfe⟩
  · obtain ⟨fd, x4, x5, x6, x7, x8, rfl, hf⟩ := hI
    have el : (enT (List.map (fun xs => Li xs) m)).length = m.length := by unfold enT; simp
    rw [el, List.take_length, List.take_of_length_le (by rw [hp, hm.len]; exact Nat.le_refl _)] at hf
    have fl : fd.length = own.length := by rw [hf]; exact haveF_len hrl
    simp -dsimp only [↓uSeq, ↓uNext, ↓uFor, ↓uSt, ↓uStV, ↓uAu, ↓uAp, ↓uApMv, ↓uAuN, ↓uAlias, ↓uDem, ↓uBrk, ↓uCnt, ↓uNev, ↓uRet, ↓uRetN, ↓uExp, ↓uExpP, ↓uSet, ↓uSetR, ↓uIf, ↓wVar, ↓wVarV, ↓wC, ↓w1, ↓w2, ↓wT, asB, ↓wChain, ↓wNil, ↓wCons, ↓wAnd, ↓wOr, ↓wNot, ↓wAndV, ↓wOrV, ↓wNotV, ↓wIf, ↓wCallP, ↓wCallV, ↓wCa, ↓wTup, ↓wLst, ↓oNon, ↓oSom, ↓wSlice, ↓wRev, ↓vP, ↓vSh, ↓vFit, ↓vaNil, ↓vaCons, ↓vLst, ↓vTup, ↓vTup0, ↓vList, ↓vRep, ↓vSlice, ↓cSl, ↓vCallN, ↓v1, ↓vCa, ↓vIx, ↓tP, ↓vAnd, ↓vOr, ↓vNot, ↓vIf, ↓vT, ↓v2, ↓vLc, ↓gI2, ↓gI2c, ↓gLen, ↓gII, ↓gI, ↓gInt1, ↓gRep, ↓gCat, ↓gKids, ↓gIn, ↓iLst, ↓TL.iTup, ↓TL.iRng1, ↓TL.iRng2, ↓iEn, ↓iZp, ↓hName, ↓hCons, ↓hNil, ↓hTup, ↓wSl, ↓wIsi, ↓wYes, rho0, iniE, entOf, allSh, List.replicate, List.length_cons, List.length_nil, Nat.reduceAdd, Nat.reduceSub, Nat.reduceLT, Nat.reduceLeDiff, List.cons_append, List.nil_append, List.getElem?_cons_zero, List.getElem?_cons_succ, Option.bind_some, Ent.tr, Ent.own, Ent.put, setE, killA, noAl_ow, noAl_io1, noAl_no, noAl_ro, noAl_al', killJ_cons, killJ_nil0, noRo_ow, noRo_io, noRo_no, noRo_al, mem1, notIn, noRA_ow, noRA_io, noRA_no, noRA_al, Plc, demE, List.foldl_cons, List.foldl_nil, List.map_cons, List.map_nil, List.set_cons_zero, List.set_cons_succ, endsOf, ↓outsOf, Option.map_some, plSet, TL.putAt, T.put, true_and, and_true, lst_set, lst_snoc, lm_set, lm_snoc, shOnly, shE_ow0, shE_ow1, shE_io, shE_no, Option.isSome_some, reduceIte, if_true, if_false, Bool.false_eq_true, Nat.reduceEqDiff]
    refine ⟨fit0, fun i acc ρ => ∃ as x6 x7 x8, acc = List.map T.int as ∧ as = (afterF m own plan).take i ∧ ρ = [Ent.ow 0 (Lm m), Ent.ow 0 (Li own), Ent.ow 0 (Li plan), Ent.ow 1 (Li fd), Ent.no, Ent.no, x6, x7, x8], ⟨[], _, _, _, rfl, rfl, rfl⟩, fun i t acc ρ hi hI => ?_, fun acc ρ hI => ?_⟩
    · obtain ⟨as, y6, y7, y8, rfl, ha, rfl⟩ := hI
      obtain ⟨u, hu, rfl⟩ := enT_get.mp hi
      obtain ⟨r, hr, rfl⟩ := mapLi_get.mp hu
      have il := (List.getElem?_eq_some_iff.mp hr).1
      have hx : fd[i]? = some (fd[i]'(by rw [fl, ← hm.len]; exact il)) := List.getElem?_eq_getElem _
      generalize fd[i]'(by rw [fl, ← hm.len]; exact il) = x at hx
      simp -dsimp only [↓uSeq, ↓uNext, ↓uFor, ↓uSt, ↓uStV, ↓uAu, ↓uAp, ↓uApMv, ↓uAuN, ↓uAlias, ↓uDem, ↓uBrk, ↓uCnt, ↓uNev, ↓uRet, ↓uRetN, ↓uExp, ↓uExpP, ↓uSet, ↓uSetR, ↓uIf, ↓wVar, ↓wVarV, ↓wC, ↓w1, ↓w2, ↓wT, asB, ↓wChain, ↓wNil, ↓wCons, ↓wAnd, ↓wOr, ↓wNot, ↓wAndV, ↓wOrV, ↓wNotV, ↓wIf, ↓wCallP, ↓wCallV, ↓wCa, ↓wTup, ↓wLst, ↓oNon, ↓oSom, ↓wSlice, ↓wRev, ↓vP, ↓vSh, ↓vFit, ↓vaNil, ↓vaCons, ↓vLst, ↓vTup, ↓vTup0, ↓vList, ↓vRep, ↓vSlice, ↓cSl, ↓vCallN, ↓v1, ↓vCa, ↓vIx, ↓tP, ↓vAnd, ↓vOr, ↓vNot, ↓vIf, ↓vT, ↓v2, ↓vLc, ↓gI2, ↓gI2c, ↓gLen, ↓gII, ↓gI, ↓gInt1, ↓gRep, ↓gCat, ↓gKids, ↓gIn, ↓iLst, ↓TL.iTup, ↓TL.iRng1, ↓TL.iRng2, ↓iEn, ↓iZp, ↓hName, ↓hCons, ↓hNil, ↓hTup, ↓wSl, ↓wIsi, ↓wYes, rho0, iniE, entOf, allSh, List.replicate, List.length_cons, List.length_nil, Nat.reduceAdd, Nat.reduceSub, Nat.reduceLT, Nat.reduceLeDiff, List.cons_append, List.nil_append, List.getElem?_cons_zero, List.getElem?_cons_succ, Option.bind_some, Ent.tr, Ent.own, Ent.put, setE, killA, noAl_ow, noAl_io1, noAl_no, noAl_ro, noAl_al', killJ_cons, killJ_nil0, noRo_ow, noRo_io, noRo_no, noRo_al, mem1, notIn, noRA_ow, noRA_io, noRA_no, noRA_al, Plc, demE, List.foldl_cons, List.foldl_nil, List.map_cons, List.map_nil, List.set_cons_zero, List.set_cons_succ, endsOf, ↓outsOf, Option.map_some, plSet, TL.putAt, T.put, true_and, and_true, lst_set, lst_snoc, lm_set, lm_snoc, shOnly, shE_ow0, shE_ow1, shE_io, shE_no, Option.isSome_some, reduceIte, if_true, if_false, Bool.false_eq_true, Nat.reduceEqDiff]
      refine ⟨r, rfl, gIx_Li hx ⟨rfl, fit0, ?_, ?_⟩⟩
      · have := hm.len
        subst ha; simp; omega
      · refine ⟨as ++ [if x < r.sum then x else r.sum], _, _, _, by rw [List.map_append]; rfl, ?_, rfl⟩
        · rw [ha]
          exact take_snoc (afterF_get hr (by rw [← hf]; exact hx))
    · obtain ⟨as, y6, y7, y8, rfl, ha, rfl⟩ := hI
      have e2 : (afterF m own plan).length = m.length := by
        unfold afterF
        rw [List.length_zipWith, haveF_len hrl, hm.len]; omega
      rw [el, ← e2, take_len] at ha
      subst ha
      exact h
/-! ### all the plans -/
def itF (m : List (List Int)) (own : List Int) (p : List Int) : Nat → List Int
  | 0 => p
  | n + 1 => afterF m own (itF m own p n)
structure Stop (m : List (List Int)) (own p : List Int) (d : Nat) : Prop where
  le : d < 1300
  go : ∀ i, i < d → itF m own p (i + 1) ≠ itF m own p i
  st : itF m own p (d + 1) = itF m own p d
def planF (m : List (List Int)) (own p : List Int) (d : Nat) : List (List Int) := (List.range (d + 1)).map (itF m own p)
structure Okp (own p : List Int) : Prop where
  len : p.length = own.length
  rng : ∀ x ∈ p, 0 ≤ x ∧ x ≤ 1000
theorem planF_last {m : List (List Int)} {own p : List Int} {d : Nat} : (planF m own p d).getLast? = some (itF m own p d) := by
  unfold planF
  rw [List.range_succ, List.map_append]
  simp
theorem planF_succ {m : List (List Int)} {own p : List Int} {d : Nat} : planF m own p d ++ [itF m own p (d + 1)] = planF m own p (d + 1) := by
  unfold planF
  rw [List.range_succ (n := d + 1), List.map_append]
  rfl
theorem planF_len {m : List (List Int)} {own p : List Int} {d : Nat} : (planF m own p d).length = d + 1 := by unfold planF; simp
def owedF (m : List (List Int)) : List Int := m.map List.sum
structure Okall (m : List (List Int)) (own p : List Int) (d : Nat) : Prop where
  k : Okm m own
  o : ∀ x ∈ own, 0 ≤ x
  q : ∀ i, Okp own (itF m own p i)
  s : Stop m own p d
theorem Okall.pl {m : List (List Int)} {own p : List Int} {d : Nat} (h : Okall m own p d) (i : Nat) : (itF m own p i).length = own.length ∧ ∀ x ∈ itF m own p i, 0 ≤ x ∧ x ≤ 1000000000000 :=
  ⟨(h.q i).len, fun x hx => by have := (h.q i).rng x hx; omega⟩
def W_stages : FnT := fun ts R => ∃ (m : List (List Int)) (own : List Int) (d : Nat), ts = [Lm m, Li own] ∧ Okall m own (owedF m) d ∧ R 2 (Lm (planF m own (owedF m) d)) []
theorem ok_stages {k : Nat} (G : Gs K mg) : FnOk P w K mg base CX0 (k + 5) G.g_stages.f G.g_stages.d ["matrix", "own"] (spT K (allSh 2) W_stages) := by
  refine fnT (k := k + 4) G.g_stages.F sc_stages rfl (fun X cdv A outer s H E hX hr => ?_)
  subst hX
  refine ⟨_, (ts_cons (ts_set 2 sc_stages.nd rfl (.inl rfl) (tv_lst 1 (tva_cons 1 (tv_lc (own := [("debts", 4)]) 0 [4] rfl sc_stages.nd (ti_lst (tv_var 0)) (blkOk_by (N := ["matrix", "own", "plans", "following", "debts"]) (sc := defScope s_stages) (by decide +kernel)) (fun _ _ _ _ _ => (tg_name 4 sc_stages.nd rfl (.inl rfl))) (fun _ _ _ _ _ => tvts_nil) (fun _ _ _ _ _ => (tv_p (tp_callB (cr_sum rfl) caT_sum (by rfl) G.z_sum (by decide +kernel) (tpa_cons (tp_var 4) tpa_nil)))) (by decide)) tva_nil) (by simp) (by decide)))
      (ts_cons (ts_set 3 sc_stages.nd rfl (.inl rfl) (tv_callN (ok_next_plan (k := k + 0) G) hr (by rfl) G.g_next_plan.g G.g_next_plan.F.kp G.g_next_plan.b (tpa_cons (tp_var 0) (tpa_cons (tp_var 1) (tpa_cons (tp_ix (tp_var 2) (tp_un un_neg unT_int tp_int) (fun _ _ => rfl)) tpa_nil)))))
      (ts_cons (ts_while PassesOwn.never (tvt_p (tpt_cmp (op_neD (eqU hr)) opT_neD (tp_var 3) (tp_ix (tp_var 2) (tp_un un_neg unT_int tp_int) (fun _ _ => rfl)) (nomark _))) (ts_cons (ts_appMv 2 3)
      (ts_one (ts_set 3 sc_stages.nd rfl (.inl rfl) (tv_callN (ok_next_plan (k := k + 0) G) hr (by rfl) G.g_next_plan.g G.g_next_plan.F.kp G.g_next_plan.b (tpa_cons (tp_var 0) (tpa_cons (tp_var 1) (tpa_cons (tp_var 3) tpa_nil))))))))
      (ts_one (ts_ret (tv_var 2)))))), fun ts R hW hlen => ?_⟩

  obtain ⟨m, own, d, rfl, hm, h⟩ := hW
  simp -dsimp only [↓uSeq, ↓uNext, ↓uFor, ↓uSt, ↓uStV, ↓uAu, ↓uAp, ↓uApMv, ↓uAuN, ↓uAlias, ↓uDem, ↓uBrk, ↓uCnt, ↓uNev, ↓uRet, ↓uRetN, ↓uExp, ↓uExpP, ↓uSet, ↓uSetR, ↓uIf, ↓wVar, ↓wVarV, ↓wC, ↓w1, ↓w2, ↓wT, asB, ↓wChain, ↓wNil, ↓wCons, ↓wAnd, ↓wOr, ↓wNot, ↓wAndV, ↓wOrV, ↓wNotV, ↓wIf, ↓wCallP, ↓wCallV, ↓wCa, ↓wTup, ↓wLst, ↓oNon, ↓oSom, ↓wSlice, ↓wRev, ↓vP, ↓vSh, ↓vFit, ↓vaNil, ↓vaCons, ↓vLst, ↓vTup, ↓vTup0, ↓vList, ↓vRep, ↓vSlice, ↓cSl, ↓vCallN, ↓v1, ↓vCa, ↓vIx, ↓tP, ↓vAnd, ↓vOr, ↓vNot, ↓vIf, ↓vT, ↓v2, ↓vLc, ↓gI2, ↓gI2c, ↓gLen, ↓gII, ↓gI, ↓gInt1, ↓gRep, ↓gCat, ↓gKids, ↓gIn, ↓iLst, ↓TL.iTup, ↓TL.iRng1, ↓TL.iRng2, ↓iEn, ↓iZp, ↓hName, ↓hCons, ↓hNil, ↓hTup, ↓wSl, ↓wIsi, ↓wYes, rho0, iniE, entOf, allSh, List.replicate, List.length_cons, List.length_nil, Nat.reduceAdd, Nat.reduceSub, Nat.reduceLT, Nat.reduceLeDiff, List.cons_append, List.nil_append, List.getElem?_cons_zero, List.getElem?_cons_succ, Option.bind_some, Ent.tr, Ent.own, Ent.put, setE, killA, noAl_ow, noAl_io1, noAl_no, noAl_ro, noAl_al', killJ_cons, killJ_nil0, noRo_ow, noRo_io, noRo_no, noRo_al, mem1, notIn, noRA_ow, noRA_io, noRA_no, noRA_al, Plc, demE, List.foldl_cons, List.foldl_nil, List.map_cons, List.map_nil, List.set_cons_zero, List.set_cons_succ, endsOf, ↓outsOf, Option.map_some, plSet, TL.putAt, T.put, true_and, and_true, lst_set, lst_snoc, lm_set, lm_snoc, shOnly, shE_ow0, shE_ow1, shE_io, shE_no, Option.isSome_some, reduceIte, if_true, if_false, Bool.false_eq_true, Nat.reduceEqDiff]
  have n6 := hm.k.n6
  have hml := hm.k.len
  refine ⟨fun i acc ρ => ∃ as, acc = List.map T.int as ∧ as = (owedF m).take i ∧ ρ = [Ent.ow 0 (Lm m), Ent.ow 0 (Li own), Ent.no, Ent.no, Ent.no], ⟨[], rfl, rfl, rfl⟩, fun i t acc ρ hi hI => ?_, fun acc ρ hI => ?_⟩
  · obtain ⟨as, rfl, ha, rfl⟩ := hI
    obtain ⟨r, hr, rfl⟩ := mapLi_get.mp hi
    have il := (List.getElem?_eq_some_iff.mp hr).1
    simp -dsimp only [↓uSeq, ↓uNext, ↓uFor, ↓uSt, ↓uStV, ↓uAu, ↓uAp, ↓uApMv, ↓uAuN, ↓uAlias, ↓uDem, ↓uBrk, ↓uCnt, ↓uNev, ↓uRet, ↓uRetN, ↓uExp, ↓uExpP, ↓uSet, ↓uSetR, ↓uIf, ↓wVar, ↓wVarV, ↓wC, ↓w1, ↓w2, ↓wT, asB, ↓wChain, ↓wNil, ↓wCons, ↓wAnd, ↓wOr, ↓wNot, ↓wAndV, ↓wOrV, ↓wNotV, ↓wIf, ↓wCallP, ↓wCallV, ↓wCa, ↓wTup, ↓wLst, ↓oNon, ↓oSom, ↓wSlice, ↓wRev, ↓vP, ↓vSh, ↓vFit, ↓vaNil, ↓vaCons, ↓vLst, ↓vTup, ↓vTup0, ↓vList, ↓vRep, ↓vSlice, ↓cSl, ↓vCallN, ↓v1, ↓vCa, ↓vIx, ↓tP, ↓vAnd, ↓vOr, ↓vNot, ↓vIf, ↓vT, ↓v2, ↓vLc, ↓gI2, ↓gI2c, ↓gLen, ↓gII, ↓gI, ↓gInt1, ↓gRep, ↓gCat, ↓gKids, ↓gIn, ↓iLst, ↓TL.iTup, ↓TL.iRng1, ↓TL.iRng2, ↓iEn, ↓iZp, ↓hName, ↓hCons, ↓hNil, ↓hTup, ↓wSl, ↓wIsi, ↓wYes, rho0, iniE, entOf, allSh, List.replicate, List.length_cons, List.length_nil, Nat.reduceAdd, Nat.reduceSub, Nat.reduceLT, Nat.reduceLeDiff, List.cons_append, List.nil_append, List.getElem?_cons_zero, List.getElem?_cons_succ, Option.bind_some, Ent.tr, Ent.own, Ent.put, setE, killA, noAl_ow, noAl_io1, noAl_no, noAl_ro, noAl_al', killJ_cons, killJ_nil0, noRo_ow, noRo_io, noRo_no, noRo_al, mem1, notIn, noRA_ow, noRA_io, noRA_no, noRA_al, Plc, demE, List.foldl_cons, List.foldl_nil, List.map_cons, List.map_nil, List.set_cons_zero, List.set_cons_succ, endsOf, ↓outsOf, Option.map_some, plSet, TL.putAt, T.put, true_and, and_true, lst_set, lst_snoc, lm_set, lm_snoc, shOnly, shE_ow0, shE_ow1, shE_io, shE_no, Option.isSome_some, reduceIte, if_true, if_false, Bool.false_eq_true, Nat.reduceEqDiff]
    refine ⟨r, rfl, rfl, fit0, ?_, as ++ [r.sum], ?_, ?_⟩
    · subst ha; simp; omega
    · rw [List.map_append]; rfl
    · rw [ha]
      exact take_snoc (by unfold owedF; rw [List.getElem?_map, hr]; rfl)
  · obtain ⟨as, rfl, ha, rfl⟩ := hI
    have e2 : (List.map (fun xs => Li xs) m).length = (owedF m).length := by unfold owedF; simp
    rw [e2, take_len] at ha
    subst ha
    simp -dsimp only [↓uSeq, ↓uNext, ↓uFor, ↓uSt, ↓uStV, ↓uAu, ↓uAp, ↓uApMv, ↓uAuN, ↓uAlias, ↓uDem, ↓uBrk, ↓uCnt, ↓uNev, ↓uRet, ↓uRetN, ↓uExp, ↓uExpP, ↓uSet, ↓uSetR, ↓uIf, ↓wVar, ↓wVarV, ↓wC, ↓w1, ↓w2, ↓wT, asB, ↓wChain, ↓wNil, ↓wCons, ↓wAnd, ↓wOr, ↓wNot, ↓wAndV, ↓wOrV, ↓wNotV, ↓wIf, ↓wCallP, ↓wCallV, ↓wCa, ↓wTup, ↓wLst, ↓oNon, ↓oSom, ↓wSlice, ↓wRev, ↓vP, ↓vSh, ↓vFit, ↓vaNil, ↓vaCons, ↓vLst, ↓vTup, ↓vTup0, ↓vList, ↓vRep, ↓vSlice, ↓cSl, ↓vCallN, ↓v1, ↓vCa, ↓vIx, ↓tP, ↓vAnd, ↓vOr, ↓vNot, ↓vIf, ↓vT, ↓v2, ↓vLc, ↓gI2, ↓gI2c, ↓gLen, ↓gII, ↓gI, ↓gInt1, ↓gRep, ↓gCat, ↓gKids, ↓gIn, ↓iLst, ↓TL.iTup, ↓TL.iRng1, ↓TL.iRng2, ↓iEn, ↓iZp, ↓hName, ↓hCons, ↓hNil, ↓hTup, ↓wSl, ↓wIsi, ↓wYes, rho0, iniE, entOf, allSh, List.replicate, List.length_cons, List.length_nil, Nat.reduceAdd, Nat.reduceSub, Nat.reduceLT, Nat.reduceLeDiff, List.cons_append, List.nil_append, List.getElem?_cons_zero, List.getElem?_cons_succ, Option.bind_some, Ent.tr, Ent.own, Ent.put, setE, killA, noAl_ow, noAl_io1, noAl_no, noAl_ro, noAl_al', killJ_cons, killJ_nil0, noRo_ow, noRo_io, noRo_no, noRo_al, mem1, notIn, noRA_ow, noRA_io, noRA_no, noRA_al, Plc, demE, List.foldl_cons, List.foldl_nil, List.map_cons, List.map_nil, List.set_cons_zero, List.set_cons_succ, endsOf, ↓outsOf, Option.map_some, plSet, TL.putAt, T.put, true_and, and_true, lst_set, lst_snoc, lm_set, lm_snoc, shOnly, shE_ow0, shE_ow1, shE_io, shE_no, Option.isSome_some, reduceIte, if_true, if_false, Bool.false_eq_true, Nat.reduceEqDiff]
    obtain ⟨a0, b0⟩ := hm.pl 0
    refine ⟨.inl (Nat.le_refl _), gIx_last rfl ⟨m, own, owedF m, rfl, hm.k, a0, b0, flatAt_Li, ?_⟩⟩
    refine ⟨fun n ρ => ∃ ps f x4 i, ρ = [Ent.ow 0 (Lm m), Ent.ow 0 (Li own), Ent.ow 2 (Lm ps), Ent.ow 1 (Li f), x4] ∧ i ≤ d ∧ ps = planF m own (owedF m) i ∧ f = itF m own (owedF m) (i + 1) ∧ n = d - i,
      ⟨_, _, _, _, 0, rfl, Nat.zero_le _, rfl, rfl, rfl⟩, fun n ρ hI => ?_⟩
    obtain ⟨ps, f, x4, i, rfl, id, hps, hf, rfl⟩ := hI
    have hl : (List.map (fun xs => Li xs) ps).getLast? = some (Li (itF m own (owedF m) i)) := by rw [hps]; exact getLast_map planF_last
    simp -dsimp only [↓uSeq, ↓uNext, ↓uFor, ↓uSt, ↓uStV, ↓uAu, ↓uAp, ↓uApMv, ↓uAuN, ↓uAlias, ↓uDem, ↓uBrk, ↓uCnt, ↓uNev, ↓uRet, ↓uRetN, ↓uExp, ↓uExpP, ↓uSet, ↓uSetR, ↓uIf, ↓wVar, ↓wVarV, ↓wC, ↓w1, ↓w2, ↓wT, asB, ↓wChain, ↓wNil, ↓wCons, ↓wAnd, ↓wOr, ↓wNot, ↓wAndV, ↓wOrV, ↓wNotV, ↓wIf, ↓wCallP, ↓wCallV, ↓wCa, ↓wTup, ↓wLst, ↓oNon, ↓oSom, ↓wSlice, ↓wRev, ↓vP, ↓vSh, ↓vFit, ↓vaNil, ↓vaCons, ↓vLst, ↓vTup, ↓vTup0, ↓vList, ↓vRep, ↓vSlice, ↓cSl, ↓vCallN, ↓v1, ↓vCa, ↓vIx, ↓tP, ↓vAnd, ↓vOr, ↓vNot, ↓vIf, ↓vT, ↓v2, ↓vLc, ↓gI2, ↓gI2c, ↓gLen, ↓gII, ↓gI, ↓gInt1, ↓gRep, ↓gCat, ↓gKids, ↓gIn, ↓iLst, ↓TL.iTup, ↓TL.iRng1, ↓TL.iRng2, ↓iEn, ↓iZp, ↓hName, ↓hCons, ↓hNil, ↓hTup, ↓wSl, ↓wIsi, ↓wYes, rho0, iniE, entOf, allSh, List.replicate, List.length_cons, List.length_nil, Nat.reduceAdd, Nat.reduceSub, Nat.reduceLT, Nat.reduceLeDiff, List.cons_append, List.nil_append, List.getElem?_cons_zero, List.getElem?_cons_succ, Option.bind_some, Ent.tr, Ent.own, Ent.put, setE, killA, noAl_ow, noAl_io1, noAl_no, noAl_ro, noAl_al', killJ_cons, killJ_nil0, noRo_ow, noRo_io, noRo_no, noRo_al, mem1, notIn, noRA_ow, noRA_io, noRA_no, noRA_al, Plc, demE, List.foldl_cons, List.foldl_nil, List.map_cons, List.map_nil, List.set_cons_zero, List.set_cons_succ, endsOf, ↓outsOf, Option.map_some, plSet, TL.putAt, T.put, true_and, and_true, lst_set, lst_snoc, lm_set, lm_snoc, shOnly, shE_ow0, shE_ow1, shE_io, shE_no, Option.isSome_some, reduceIte, if_true, if_false, Bool.false_eq_true, Nat.reduceEqDiff]
    refine gIx_last hl ⟨okd_eqok (n := 1) okd_Li (by omega), okd_eqok (n := 1) okd_Li (by omega), ?_⟩
    rw [hf, eqv_Li]
    refine ifS (fun q => ?_) (fun q => ?_)
    · have q : itF m own (owedF m) (i + 1) ≠ itF m own (owedF m) i := by simpa using q
      have hlt : i < d := by
        rcases Nat.lt_or_ge i d with z | z
        · exact z
        · have e : i = d := by omega
          subst e
          exact absurd hm.s.st q
      have hle := hm.s.le
      obtain ⟨a1, b1⟩ := hm.pl (i + 1)
      refine ⟨by decide, ?_, ?_⟩
      · rw [hps]; simp [planF_len]; omega
      refine ⟨m, own, itF m own (owedF m) (i + 1), rfl, hm.k, a1, b1, flatAt_Li, d - (i + 1), by omega, ps ++ [itF m own (owedF m) (i + 1)], _, _, i + 1, rfl, hlt, ?_, rfl, rfl⟩
      rw [hps]
      exact planF_succ
    · have q : itF m own (owedF m) (i + 1) = itF m own (owedF m) i := by simpa using q
      have e : i = d := by
        rcases Nat.lt_or_ge i d with z | z
        · exact absurd q (hm.s.go i z)
        · omega
      subst e
      rw [hps]
      exact h
def W_clearing : FnT := fun ts R => ∃ (m : List (List Int)) (own : List Int) (d : Nat), ts = [Lm m, Li own] ∧ Okall m own (owedF m) d ∧ R 1 (Li (itF m own (owedF m) d)) []
theorem ok_clearing {k : Nat} (G : Gs K mg) : FnOk P w K mg base CX0 (k + 6) G.g_clearing.f G.g_clearing.d ["matrix", "own"] (spT K (allSh 2) W_clearing) := by
  refine fnT (k := k + 5) G.g_clearing.F sc_clearing rfl (fun X cdv A outer s H E hX hr => ?_)
  subst hX
  refine ⟨_, (ts_one (ts_ret (tv_ix (tv_callN (ok_stages (k := k + 0) G) hr (by rfl) G.g_stages.g G.g_stages.F.kp G.g_stages.b (tpa_cons (tp_var 0) (tpa_cons (tp_var 1) tpa_nil))) (tv_p (tp_un un_neg unT_int tp_int)) (fun _ _ => rfl)))), fun ts R hW hlen => ?_⟩

  obtain ⟨m, own, d, rfl, hm, h⟩ := hW
  simp -dsimp only [↓uSeq, ↓uNext, ↓uFor, ↓uSt, ↓uStV, ↓uAu, ↓uAp, ↓uApMv, ↓uAuN, ↓uAlias, ↓uDem, ↓uBrk, ↓uCnt, ↓uNev, ↓uRet, ↓uRetN, ↓uExp, ↓uExpP, ↓uSet, ↓uSetR, ↓uIf, ↓wVar, ↓wVarV, ↓wC, ↓w1, ↓w2, ↓wT, asB, ↓wChain, ↓wNil, ↓wCons, ↓wAnd, ↓wOr, ↓wNot, ↓wAndV, ↓wOrV, ↓wNotV, ↓wIf, ↓wCallP, ↓wCallV, ↓wCa, ↓wTup, ↓wLst, ↓oNon, ↓oSom, ↓wSlice, ↓wRev, ↓vP, ↓vSh, ↓vFit, ↓vaNil, ↓vaCons, ↓vLst, ↓vTup, ↓vTup0, ↓vList, ↓vRep, ↓vSlice, ↓cSl, ↓vCallN, ↓v1, ↓vCa, ↓vIx, ↓tP, ↓vAnd, ↓vOr, ↓vNot, ↓vIf, ↓vT, ↓v2, ↓vLc, ↓gI2, ↓gI2c, ↓gLen, ↓gII, ↓gI, ↓gInt1, ↓gRep, ↓gCat, ↓gKids, ↓gIn, ↓iLst, ↓TL.iTup, ↓TL.iRng1, ↓TL.iRng2, ↓iEn, ↓iZp, ↓hName, ↓hCons, ↓hNil, ↓hTup, ↓wSl, ↓wIsi, ↓wYes, rho0, iniE, entOf, allSh, List.replicate, List.length_cons, List.length_nil, Nat.reduceAdd, Nat.reduceSub, Nat.reduceLT, Nat.reduceLeDiff, List.cons_append, List.nil_append, List.getElem?_cons_zero, List.getElem?_cons_succ, Option.bind_some, Ent.tr, Ent.own, Ent.put, setE, killA, noAl_ow, noAl_io1, noAl_no, noAl_ro, noAl_al', killJ_cons, killJ_nil0, noRo_ow, noRo_io, noRo_no, noRo_al, mem1, notIn, noRA_ow, noRA_io, noRA_no, noRA_al, Plc, demE, List.foldl_cons, List.foldl_nil, List.map_cons, List.map_nil, List.set_cons_zero, List.set_cons_succ, endsOf, ↓outsOf, Option.map_some, plSet, TL.putAt, T.put, true_and, and_true, lst_set, lst_snoc, lm_set, lm_snoc, shOnly, shE_ow0, shE_ow1, shE_io, shE_no, Option.isSome_some, reduceIte, if_true, if_false, Bool.false_eq_true, Nat.reduceEqDiff]
  refine ⟨m, own, d, rfl, hm, flatAt_Lm, rfl, ?_⟩
  show (match atI ((planF m own (owedF m) d).map fun xs => Li xs) (-1) with | some z => R (2 - 1) z [] | none => False)
  rw [atI_neg1 (getLast_map planF_last)]
  exact h
def W_shows_clearing : FnT := fun ts R => ∃ (m : List (List Int)) (own : List Int) (d : Nat) (o : T), ts = [Lm m, Li own, o] ∧ o.eqok = true ∧ Okall m own (owedF m) d ∧ R 0 (.bl (o.eqv (Lm (planF m own (owedF m) d)))) []
theorem ok_shows_clearing {k : Nat} (G : Gs K mg) : FnOk P w K mg base CX0 (k + 6) G.g_shows_clearing.f G.g_shows_clearing.d ["matrix", "own", "plans"] (spT K (allSh 3) W_shows_clearing) := by
  refine fnT (k := k + 5) G.g_shows_clearing.F sc_shows_clearing rfl (fun X cdv A outer s H E hX hr => ?_)
  subst hX
  refine ⟨_, (ts_one (ts_ret (tv_p (tp_cmp (op_eqD (eqU hr)) opT_eqD (tp_var 2) (tp_call (ok_stages (k := k + 0) G) hr (by rfl) G.g_stages.g G.g_stages.F.kp G.g_stages.b (tpa_cons (tp_var 0) (tpa_cons (tp_var 1) tpa_nil))) (nomark _))))), fun ts R hW hlen => ?_⟩

  obtain ⟨m, own, d, o, rfl, ho, hm, h⟩ := hW
  simp -dsimp only [↓uSeq, ↓uNext, ↓uFor, ↓uSt, ↓uStV, ↓uAu, ↓uAp, ↓uApMv, ↓uAuN, ↓uAlias, ↓uDem, ↓uBrk, ↓uCnt, ↓uNev, ↓uRet, ↓uRetN, ↓uExp, ↓uExpP, ↓uSet, ↓uSetR, ↓uIf, ↓wVar, ↓wVarV, ↓wC, ↓w1, ↓w2, ↓wT, asB, ↓wChain, ↓wNil, ↓wCons, ↓wAnd, ↓wOr, ↓wNot, ↓wAndV, ↓wOrV, ↓wNotV, ↓wIf, ↓wCallP, ↓wCallV, ↓wCa, ↓wTup, ↓wLst, ↓oNon, ↓oSom, ↓wSlice, ↓wRev, ↓vP, ↓vSh, ↓vFit, ↓vaNil, ↓vaCons, ↓vLst, ↓vTup, ↓vTup0, ↓vList, ↓vRep, ↓vSlice, ↓cSl, ↓vCallN, ↓v1, ↓vCa, ↓vIx, ↓tP, ↓vAnd, ↓vOr, ↓vNot, ↓vIf, ↓vT, ↓v2, ↓vLc, ↓gI2, ↓gI2c, ↓gLen, ↓gII, ↓gI, ↓gInt1, ↓gRep, ↓gCat, ↓gKids, ↓gIn, ↓iLst, ↓TL.iTup, ↓TL.iRng1, ↓TL.iRng2, ↓iEn, ↓iZp, ↓hName, ↓hCons, ↓hNil, ↓hTup, ↓wSl, ↓wIsi, ↓wYes, rho0, iniE, entOf, allSh, List.replicate, List.length_cons, List.length_nil, Nat.reduceAdd, Nat.reduceSub, Nat.reduceLT, Nat.reduceLeDiff, List.cons_append, List.nil_append, List.getElem?_cons_zero, List.getElem?_cons_succ, Option.bind_some, Ent.tr, Ent.own, Ent.put, setE, killA, noAl_ow, noAl_io1, noAl_no, noAl_ro, noAl_al', killJ_cons, killJ_nil0, noRo_ow, noRo_io, noRo_no, noRo_al, mem1, notIn, noRA_ow, noRA_io, noRA_no, noRA_al, Plc, demE, List.foldl_cons, List.foldl_nil, List.map_cons, List.map_nil, List.set_cons_zero, List.set_cons_succ, endsOf, ↓outsOf, Option.map_some, plSet, TL.putAt, T.put, true_and, and_true, lst_set, lst_snoc, lm_set, lm_snoc, shOnly, shE_ow0, shE_ow1, shE_io, shE_no, Option.isSome_some, reduceIte, if_true, if_false, Bool.false_eq_true, Nat.reduceEqDiff]
  exact ⟨m, own, d, rfl, hm, ho, okd_eqok (n := 2) okd_Lm (by omega), rfl, h⟩
end
end K94
set_option Elab.async false
set_option linter.all false
set_option maxRecDepth 100000
namespace K94
open PySem PySem.Spec PyProof.Rows L2 TL
theorem gp0 {a b c : T} {R : T → Prop} : gIx (T.lst [a, b, c]) (.int 0) R = R a := rfl
theorem gp1 {a b c : T} {R : T → Prop} : gIx (T.lst [a, b, c]) (.int 1) R = R b := rfl
theorem gp2 {a b c : T} {R : T → Prop} : gIx (T.lst [a, b, c]) (.int 2) R = R c := rfl
theorem gq0 {a b c : Int} {R : T → Prop} : gIx (Li [a, b, c]) (.int 0) R = R (.int a) := rfl
theorem gq1 {a b c : Int} {R : T → Prop} : gIx (Li [a, b, c]) (.int 1) R = R (.int b) := rfl
theorem gq2 {a b c : Int} {R : T → Prop} : gIx (Li [a, b, c]) (.int 2) R = R (.int c) := rfl
theorem ix30 : ixN 3 0 = some 0 := rfl
theorem ix32 : ixN 3 2 = some 2 := rfl
theorem gIx_scr {ns : List Int} {i : Nat} {x : Int} {R : T → Prop} (h : ns[i]? = some x) (hR : R (.int x)) : gIx (T.scr ns) (.int (i : Nat)) R := by
  show match atI ns (i : Int) with | some x => R (.int x) | none => False
  rw [atI_natT h]; exact hR
theorem gIx_tup {xs : List T} {i : Nat} {x : T} {R : T → Prop} (h : xs[i]? = some x) (hR : R x) : gIx (.tup xs) (.int (i : Nat)) R := by
  show match atI xs (i : Int) with | some x => R x | none => False
  rw [atI_natT h]; exact hR
theorem cm1 {a b : Int} (h1 : -(2 ^ 64) < a) (h2 : a < 2 ^ 64) : CMul a b := .inl ⟨h1, h2⟩
theorem cm2 {a b : Int} (h1 : -(2 ^ 64) < b) (h2 : b < 2 ^ 64) : CMul a b := .inr ⟨h1, h2⟩
section
variable {P : Program} {w : World} {K : PySem.W.Frag} {mg : Str → Option Value} {base : Heap}
def W__law_pool : FnT := fun ts R => ∃ (ns : List Int) (i s : Int), ts = [.scr ns, .int i, .int s] ∧ 0 ≤ i ∧ ∀ a b, R 1 (Li [a, b, 0]) []
theorem ok__law_pool {k : Nat} (G : Gs K mg) : FnOk P w K mg base CX0 (k + 1) G.g__law_pool.f G.g__law_pool.d ["script", "at", "salt"] (spT K (allSh 3) W__law_pool) := by
  refine fnT (k := k + 0) G.g__law_pool.F sc__law_pool rfl (fun X cdv A outer s H E hX hr => ?_)
  subst hX
  refine ⟨_, (ts_cons (ts_set 3 sc__law_pool.nd rfl (.inl rfl) (tv_p tp_int))
      (ts_cons (ts_if (tvt_p (tpt_cmp op_lt opT_bl (tp_var 1) (tp_callB call_len_seq caT_len (by rfl) G.z_len PySem.boot_len (tpa_cons (tp_var 0) tpa_nil)) (nomark _))) (ts_one (ts_set 3 sc__law_pool.nd rfl (.inl rfl) (tv_p (tp_callB call_abs caT_i (by rfl) G.z_abs (by decide +kernel) (tpa_cons (tp_ix (tp_var 0) (tp_var 1) (fun _ _ => rfl)) tpa_nil))))) ts_nil)
      (ts_cons (ts_set 4 sc__law_pool.nd rfl (.inl rfl) (tv_p tp_int))
      (ts_cons (ts_if (tvt_p (tpt_cmp op_ge opT_bl (tp_var 3) (tp_op op_pow opT_intc tp_int tp_int) (nomark _))) (ts_one (ts_set 4 sc__law_pool.nd rfl (.inl rfl) (tv_p (tp_var 3)))) ts_nil)
      (ts_one (ts_ret (tv_lst 0 (tva_cons 0 (tv_p (tp_var 4)) (tva_cons 0 (tv_p (tp_op op_add opT_int (tp_op op_add opT_int (tp_op op_mod opT_intc (tp_callTy call_int1 caT_int1 (by rfl) G.z_int (by decide +kernel) (tpa_cons (tp_var 3) tpa_nil)) tp_int) (tp_op op_mul opT_intc tp_int (tp_var 2))) (tp_op op_mul opT_intc tp_int (tp_var 1)))) (tva_cons 0 (tv_p tp_int) tva_nil))) (by simp) (by decide)))))))), fun ts R hW hlen => ?_⟩

  obtain ⟨ns, i, s, rfl, h0, h⟩ := hW
  simp -dsimp only [↓uSeq, ↓uNext, ↓uFor, ↓uSt, ↓uStV, ↓uAu, ↓uAp, ↓uApMv, ↓uAuN, ↓uAlias, ↓uDem, ↓uBrk, ↓uCnt, ↓uNev, ↓uRet, ↓uRetN, ↓uExp, ↓uExpP, ↓uSet, ↓uSetR, ↓uIf, ↓wVar, ↓wVarV, ↓wC, ↓w1, ↓w2, ↓wT, asB, ↓wChain, ↓wNil, ↓wCons, ↓wAnd, ↓wOr, ↓wNot, ↓wAndV, ↓wOrV, ↓wNotV, ↓wIf, ↓wCallP, ↓wCallV, ↓wCa, ↓wTup, ↓wLst, ↓oNon, ↓oSom, ↓wSlice, ↓wRev, ↓vP, ↓vSh, ↓vFit, ↓vaNil, ↓vaCons, ↓vLst, ↓vTup, ↓vTup0, ↓vList, ↓vRep, ↓vSlice, ↓cSl, ↓vCallN, ↓v1, ↓vCa, ↓vIx, ↓tP, ↓vAnd, ↓vOr, ↓vNot, ↓vIf, ↓vT, ↓v2, ↓vLc, ↓gI2, ↓gI2c, ↓gLen, ↓gII, ↓gI, ↓gInt1, ↓gRep, ↓gCat, ↓gKids, ↓gIn, ↓iLst, ↓TL.iTup, ↓TL.iRng1, ↓TL.iRng2, ↓iEn, ↓iZp, ↓hName, ↓hCons, ↓hNil, ↓hTup, ↓wSl, ↓wIsi, ↓wYes, rho0, iniE, entOf, allSh, List.replicate, List.length_cons, List.length_nil, Nat.reduceAdd, Nat.reduceSub, Nat.reduceLT, Nat.reduceLeDiff, List.cons_append, List.nil_append, List.getElem?_cons_zero, List.getElem?_cons_succ, Option.bind_some, Ent.tr, Ent.own, Ent.put, setE, killA, noAl_ow, noAl_io1, noAl_no, noAl_ro, noAl_al', killJ_cons, killJ_nil0, noRo_ow, noRo_io, noRo_no, noRo_al, mem1, notIn, noRA_ow, noRA_io, noRA_no, noRA_al, Plc, demE, List.foldl_cons, List.foldl_nil, List.map_cons, List.map_nil, List.set_cons_zero, List.set_cons_succ, endsOf, ↓outsOf, Option.map_some, plSet, TL.putAt, T.put, true_and, and_true, lst_set, lst_snoc, lm_set, lm_snoc, shOnly, shE_ow0, shE_ow1, shE_io, shE_no, Option.isSome_some, reduceIte, if_true, if_false, Bool.false_eq_true, Nat.reduceEqDiff]
  obtain ⟨j, rfl⟩ := Int.eq_ofNat_of_zero_le h0
  refine ⟨rfl, ifS (fun q => ?_) (fun q => ?_)⟩
  · have q : (j : Int) < ns.length := of_decide_eq_true q
    refine gIx_scr (List.getElem?_eq_getElem (by omega : j < ns.length)) ⟨rfl, rfl, ⟨by decide, by decide, by decide⟩, ifS (fun q2 => ?_) (fun q2 => ?_)⟩
    · exact ⟨rfl, rfl, fit0, by decide, cm1 (by decide) (by decide), cm1 (by decide) (by decide), rfl, fit0, rfl, fit0, h _ _⟩
    · exact ⟨rfl, fit0, by decide, cm1 (by decide) (by decide), cm1 (by decide) (by decide), rfl, fit0, rfl, fit0, h _ _⟩
  · refine ⟨rfl, ⟨by decide, by decide, by decide⟩, ifS (fun q2 => ?_) (fun q2 => ?_)⟩
    · exact ⟨rfl, rfl, fit0, by decide, cm1 (by decide) (by decide), cm1 (by decide) (by decide), rfl, fit0, rfl, fit0, h _ _⟩
    · exact ⟨rfl, fit0, by decide, cm1 (by decide) (by decide), cm1 (by decide) (by decide), rfl, fit0, rfl, fit0, h _ _⟩
def W__law_mix : FnT := fun ts R => ∃ s t : Int, ts = [.int s, .int t] ∧ ∀ v, R 0 (.int v) []
theorem ok__law_mix {k : Nat} (G : Gs K mg) : FnOk P w K mg base CX0 (k + 1) G.g__law_mix.f G.g__law_mix.d ["seed", "turn"] (spT K (allSh 2) W__law_mix) := by
  refine fnT (k := k + 0) G.g__law_mix.F sc__law_mix rfl (fun X cdv A outer s H E hX hr => ?_)
  subst hX
  refine ⟨_, (ts_cons (ts_set 2 sc__law_mix.nd rfl (.inl rfl) (tv_p (tp_op op_mod opT_intc (tp_callTy call_int1 caT_int1 (by rfl) G.z_int (by decide +kernel) (tpa_cons (tp_op op_add opT_int (tp_op op_add opT_int (tp_op op_mul opT_intc (tp_var 0) tp_int) (tp_op op_mul opT_intc (tp_var 1) tp_int)) tp_int) tpa_nil)) tp_int)))
      (ts_cons (ts_set 3 sc__law_mix.nd rfl (.inl rfl) (tv_p (tp_op op_mod opT_intc (tp_callTy call_int1 caT_int1 (by rfl) G.z_int (by decide +kernel) (tpa_cons (tp_op op_add opT_int (tp_op op_add opT_int (tp_op op_mul opT_intc (tp_var 2) (tp_var 2)) (tp_op op_mul opT_intc (tp_var 1) tp_int)) tp_int) tpa_nil)) tp_int)))
      (ts_cons (ts_set 4 sc__law_mix.nd rfl (.inl rfl) (tv_p (tp_op op_mod opT_intc (tp_callTy call_int1 caT_int1 (by rfl) G.z_int (by decide +kernel) (tpa_cons (tp_op op_add opT_int (tp_op op_add opT_int (tp_op op_mul opT_intc (tp_var 3) (tp_var 3)) (tp_var 2)) tp_int) tpa_nil)) tp_int)))
      (ts_one (ts_ret (tv_p (tp_op op_fdiv opT_intc (tp_var 4) tp_int))))))), fun ts R hW hlen => ?_⟩

  obtain ⟨s, t, rfl, h⟩ := hW
  simp -dsimp only [↓uSeq, ↓uNext, ↓uFor, ↓uSt, ↓uStV, ↓uAu, ↓uAp, ↓uApMv, ↓uAuN, ↓uAlias, ↓uDem, ↓uBrk, ↓uCnt, ↓uNev, ↓uRet, ↓uRetN, ↓uExp, ↓uExpP, ↓uSet, ↓uSetR, ↓uIf, ↓wVar, ↓wVarV, ↓wC, ↓w1, ↓w2, ↓wT, asB, ↓wChain, ↓wNil, ↓wCons, ↓wAnd, ↓wOr, ↓wNot, ↓wAndV, ↓wOrV, ↓wNotV, ↓wIf, ↓wCallP, ↓wCallV, ↓wCa, ↓wTup, ↓wLst, ↓oNon, ↓oSom, ↓wSlice, ↓wRev, ↓vP, ↓vSh, ↓vFit, ↓vaNil, ↓vaCons, ↓vLst, ↓vTup, ↓vTup0, ↓vList, ↓vRep, ↓vSlice, ↓cSl, ↓vCallN, ↓v1, ↓vCa, ↓vIx, ↓tP, ↓vAnd, ↓vOr, ↓vNot, ↓vIf, ↓vT, ↓v2, ↓vLc, ↓gI2, ↓gI2c, ↓gLen, ↓gII, ↓gI, ↓gInt1, ↓gRep, ↓gCat, ↓gKids, ↓gIn, ↓iLst, ↓TL.iTup, ↓TL.iRng1, ↓TL.iRng2, ↓iEn, ↓iZp, ↓hName, ↓hCons, ↓hNil, ↓hTup, ↓wSl, ↓wIsi, ↓wYes, rho0, iniE, entOf, allSh, List.replicate, List.length_cons, List.length_nil, Nat.reduceAdd, Nat.reduceSub, Nat.reduceLT, Nat.reduceLeDiff, List.cons_append, List.nil_append, List.getElem?_cons_zero, List.getElem?_cons_succ, Option.bind_some, Ent.tr, Ent.own, Ent.put, setE, killA, noAl_ow, noAl_io1, noAl_no, noAl_ro, noAl_al', killJ_cons, killJ_nil0, noRo_ow, noRo_io, noRo_no, noRo_al, mem1, notIn, noRA_ow, noRA_io, noRA_no, noRA_al, Plc, demE, List.foldl_cons, List.foldl_nil, List.map_cons, List.map_nil, List.set_cons_zero, List.set_cons_succ, endsOf, ↓outsOf, Option.map_some, plSet, TL.putAt, T.put, true_and, and_true, lst_set, lst_snoc, lm_set, lm_snoc, shOnly, shE_ow0, shE_ow1, shE_io, shE_no, Option.isSome_some, reduceIte, if_true, if_false, Bool.false_eq_true, Nat.reduceEqDiff]
  have m1 : ∀ x : Int, -(2 ^ 64) < x % 2147483647 ∧ x % 2147483647 < 2 ^ 64 := fun x => by omega
  have m2 : ∀ x : Int, -(2 ^ 64) < x % 2147483629 ∧ x % 2147483629 < 2 ^ 64 := fun x => by omega
  exact ⟨cm2 (by decide) (by decide), cm2 (by decide) (by decide), by decide, rfl, cm1 (m1 _).1 (m1 _).2, cm2 (by decide) (by decide), by decide, rfl, cm1 (m2 _).1 (m2 _).2, by decide, rfl, ⟨by decide, by decide⟩, rfl, h _⟩
def W__law_draw : FnT := fun ts R => ∃ a b c m : Int, ts = [Li [a, b, c], .int m] ∧ 0 < m ∧ m < 1073741824 ∧ ∀ v a' c', 0 ≤ v → v < m → R 0 (.int v) [Li [a', b, c']]
theorem ok__law_draw {k : Nat} (G : Gs K mg) : FnOk P w K mg base CX0 (k + 2) G.g__law_draw.f G.g__law_draw.d ["pool", "many"] (spT K [.io 1, .sh] W__law_draw) := by
  refine fnT (k := k + 1) G.g__law_draw.F sc__law_draw rfl (fun X cdv A outer s H E hX hr => ?_)
  subst hX
  refine ⟨_, (ts_cons (ts_if (tvt_p (tpt_cmp op_gt opT_bl (tp_ix (tp_var 0) tp_int (fun _ _ => rfl)) tp_int (nomark _))) (ts_cons (ts_set 2 sc__law_draw.nd rfl (.inl rfl) (tv_p (tp_op op_mod opT_intc (tp_callTy call_int1 caT_int1 (by rfl) G.z_int (by decide +kernel) (tpa_cons (tp_ix (tp_var 0) tp_int (fun _ _ => rfl)) tpa_nil)) (tp_var 1))))
      (ts_cons (ts_store 0 (tv_p (tp_op op_fdiv opT_intc (tp_ix (tp_var 0) tp_int (fun _ _ => rfl)) (tp_var 1))) tp_int)
      (ts_one (ts_ret (tv_p (tp_var 2)))))) ts_nil)
      (ts_cons (ts_store 0 (tv_p (tp_op op_add opT_int (tp_ix (tp_var 0) tp_int (fun _ _ => rfl)) tp_int)) tp_int)
      (ts_one (ts_ret (tv_p (tp_op op_mod opT_intc (tp_callTy call_int1 caT_int1 (by rfl) G.z_int (by decide +kernel) (tpa_cons (tp_call (ok__law_mix (k := k + 0) G) hr (by rfl) G.g__law_mix.g G.g__law_mix.F.kp G.g__law_mix.b (tpa_cons (tp_ix (tp_var 0) tp_int (fun _ _ => rfl)) (tpa_cons (tp_ix (tp_var 0) tp_int (fun _ _ => rfl)) tpa_nil))) tpa_nil)) (tp_var 1))))))), fun ts R hW hlen => ?_⟩

  obtain ⟨a, b, c, m, rfl, h0, h1, h⟩ := hW
  simp -dsimp only [gq0, gq1, gq2, gp0, gp1, gp2, ix30, ix32, ↓uSeq, ↓uNext, ↓uFor, ↓uSt, ↓uStV, ↓uAu, ↓uAp, ↓uApMv, ↓uAuN, ↓uAlias, ↓uDem, ↓uBrk, ↓uCnt, ↓uNev, ↓uRet, ↓uRetN, ↓uExp, ↓uExpP, ↓uSet, ↓uSetR, ↓uIf, ↓wVar, ↓wVarV, ↓wC, ↓w1, ↓w2, ↓wT, asB, ↓wChain, ↓wNil, ↓wCons, ↓wAnd, ↓wOr, ↓wNot, ↓wAndV, ↓wOrV, ↓wNotV, ↓wIf, ↓wCallP, ↓wCallV, ↓wCa, ↓wTup, ↓wLst, ↓oNon, ↓oSom, ↓wSlice, ↓wRev, ↓vP, ↓vSh, ↓vFit, ↓vaNil, ↓vaCons, ↓vLst, ↓vTup, ↓vTup0, ↓vList, ↓vRep, ↓vSlice, ↓cSl, ↓vCallN, ↓v1, ↓vCa, ↓vIx, ↓tP, ↓vAnd, ↓vOr, ↓vNot, ↓vIf, ↓vT, ↓v2, ↓vLc, ↓gI2, ↓gI2c, ↓gLen, ↓gII, ↓gI, ↓gInt1, ↓gRep, ↓gCat, ↓gKids, ↓gIn, ↓iLst, ↓TL.iTup, ↓TL.iRng1, ↓TL.iRng2, ↓iEn, ↓iZp, ↓hName, ↓hCons, ↓hNil, ↓hTup, ↓wSl, ↓wIsi, ↓wYes, rho0, iniE, entOf, allSh, List.replicate, List.length_cons, List.length_nil, Nat.reduceAdd, Nat.reduceSub, Nat.reduceLT, Nat.reduceLeDiff, List.cons_append, List.nil_append, List.getElem?_cons_zero, List.getElem?_cons_succ, Option.bind_some, Ent.tr, Ent.own, Ent.put, setE, killA, noAl_ow, noAl_io1, noAl_no, noAl_ro, noAl_al', killJ_cons, killJ_nil0, noRo_ow, noRo_io, noRo_no, noRo_al, mem1, notIn, noRA_ow, noRA_io, noRA_no, noRA_al, Plc, demE, List.foldl_cons, List.foldl_nil, List.map_cons, List.map_nil, List.set_cons_zero, List.set_cons_succ, endsOf, ↓outsOf, Option.map_some, plSet, TL.putAt, T.put, true_and, and_true, lst_set, lst_snoc, lm_set, lm_snoc, shOnly, shE_ow0, shE_ow1, shE_io, shE_no, Option.isSome_some, reduceIte, if_true, if_false, Bool.false_eq_true, Nat.reduceEqDiff]
  refine ifS (fun q => ?_) (fun q => ?_)
  · exact ⟨h0, rfl, ⟨h0, h1⟩, rfl, fit0, rfl, h _ _ _ (Int.emod_nonneg _ (by omega)) (Int.emod_lt_of_pos _ h0)⟩
  · exact ⟨rfl, fit0, b, c + 1, rfl, fun v => ⟨h0, rfl, h _ _ _ (Int.emod_nonneg _ (by omega)) (Int.emod_lt_of_pos _ h0)⟩⟩
def W__law_pick : FnT := fun ts R => ∃ (a b c : Int) (xs : List Int), ts = [Li [a, b, c], Li xs] ∧ 0 < xs.length ∧ xs.length ≤ 1000 ∧ ∀ x ∈ xs, ∀ a' c', R 0 (.int x) [Li [a', b, c']]
theorem ok__law_pick {k : Nat} (G : Gs K mg) : FnOk P w K mg base CX0 (k + 3) G.g__law_pick.f G.g__law_pick.d ["pool", "row"] (spT K [.io 1, .sh] W__law_pick) := by
  refine fnT (k := k + 2) G.g__law_pick.F sc__law_pick rfl (fun X cdv A outer s H E hX hr => ?_)
  subst hX
  refine ⟨_, (ts_one (ts_ret (tv_ix (tv_var 1) (tv_call (ok__law_draw (k := k + 0) G) hr (by rfl) G.g__law_draw.g G.g__law_draw.F.kp G.g__law_draw.b (tca_sl 0 (tca_tv 0 (tv_p (tp_callB call_len_seq caT_len (by rfl) G.z_len PySem.boot_len (tpa_cons (tp_var 1) tpa_nil))) tca_nil))) (fun _ _ => rfl)))), fun ts R hW hlen => ?_⟩

  obtain ⟨a, b, c, xs, rfl, h0, h1, h⟩ := hW
  simp -dsimp only [↓uSeq, ↓uNext, ↓uFor, ↓uSt, ↓uStV, ↓uAu, ↓uAp, ↓uApMv, ↓uAuN, ↓uAlias, ↓uDem, ↓uBrk, ↓uCnt, ↓uNev, ↓uRet, ↓uRetN, ↓uExp, ↓uExpP, ↓uSet, ↓uSetR, ↓uIf, ↓wVar, ↓wVarV, ↓wC, ↓w1, ↓w2, ↓wT, asB, ↓wChain, ↓wNil, ↓wCons, ↓wAnd, ↓wOr, ↓wNot, ↓wAndV, ↓wOrV, ↓wNotV, ↓wIf, ↓wCallP, ↓wCallV, ↓wCa, ↓wTup, ↓wLst, ↓oNon, ↓oSom, ↓wSlice, ↓wRev, ↓vP, ↓vSh, ↓vFit, ↓vaNil, ↓vaCons, ↓vLst, ↓vTup, ↓vTup0, ↓vList, ↓vRep, ↓vSlice, ↓cSl, ↓vCallN, ↓v1, ↓vCa, ↓vIx, ↓tP, ↓vAnd, ↓vOr, ↓vNot, ↓vIf, ↓vT, ↓v2, ↓vLc, ↓gI2, ↓gI2c, ↓gLen, ↓gII, ↓gI, ↓gInt1, ↓gRep, ↓gCat, ↓gKids, ↓gIn, ↓iLst, ↓TL.iTup, ↓TL.iRng1, ↓TL.iRng2, ↓iEn, ↓iZp, ↓hName, ↓hCons, ↓hNil, ↓hTup, ↓wSl, ↓wIsi, ↓wYes, rho0, iniE, entOf, allSh, List.replicate, List.length_cons, List.length_nil, Nat.reduceAdd, Nat.reduceSub, Nat.reduceLT, Nat.reduceLeDiff, List.cons_append, List.nil_append, List.getElem?_cons_zero, List.getElem?_cons_succ, Option.bind_some, Ent.tr, Ent.own, Ent.put, setE, killA, noAl_ow, noAl_io1, noAl_no, noAl_ro, noAl_al', killJ_cons, killJ_nil0, noRo_ow, noRo_io, noRo_no, noRo_al, mem1, notIn, noRA_ow, noRA_io, noRA_no, noRA_al, Plc, demE, List.foldl_cons, List.foldl_nil, List.map_cons, List.map_nil, List.set_cons_zero, List.set_cons_succ, endsOf, ↓outsOf, Option.map_some, plSet, TL.putAt, T.put, true_and, and_true, lst_set, lst_snoc, lm_set, lm_snoc, shOnly, shE_ow0, shE_ow1, shE_io, shE_no, Option.isSome_some, reduceIte, if_true, if_false, Bool.false_eq_true, Nat.reduceEqDiff]
  rw [show (List.map T.int xs).length = xs.length from List.length_map _]
  refine ⟨rfl, fit0, a, b, c, _, rfl, by omega, by omega, fun v a' c' hv0 hv1 => ?_⟩
  obtain ⟨j, rfl⟩ := Int.eq_ofNat_of_zero_le hv0
  have hj : xs[j]? = some (xs[j]'(by omega)) := List.getElem?_eq_getElem (by omega)
  show (match atI (xs.map T.int) (j : Int) with | some z => R (0 - 1) z [Li [a', b, c']] | none => False)
  rw [atI_Li hj]
  exact h _ (List.getElem_mem _) a' c'
def W__law_whole : FnT := fun ts R => ∃ t, ts = [t] ∧ t.tyn.isSome = true ∧ R 0 (.bl (isT .int t && !isT .bool t)) []
theorem ok__law_whole {k : Nat} (G : Gs K mg) : FnOk P w K mg base CX0 (k + 1) G.g__law_whole.f G.g__law_whole.d ["thing"] (spT K (allSh 1) W__law_whole) := by
  refine fnT (k := k + 0) G.g__law_whole.F sc__law_whole rfl (fun X cdv A outer s H E hX hr => ?_)
  subst hX
  refine ⟨_, (ts_one (ts_ret (tv_p (tp_and (tp_isi .int (by rfl) G.z_isinstance (by rfl) G.z_int (by decide +kernel) (tp_var 0)) (tp_one (tp_not (tp_isi .bool (by rfl) G.z_isinstance (by rfl) G.z_bool (by decide +kernel) (tp_var 0)))))))), fun ts R hW hlen => ?_⟩

  obtain ⟨t, rfl, h0, h⟩ := hW
  simp -dsimp only [↓uSeq, ↓uNext, ↓uFor, ↓uSt, ↓uStV, ↓uAu, ↓uAp, ↓uApMv, ↓uAuN, ↓uAlias, ↓uDem, ↓uBrk, ↓uCnt, ↓uNev, ↓uRet, ↓uRetN, ↓uExp, ↓uExpP, ↓uSet, ↓uSetR, ↓uIf, ↓wVar, ↓wVarV, ↓wC, ↓w1, ↓w2, ↓wT, asB, ↓wChain, ↓wNil, ↓wCons, ↓wAnd, ↓wOr, ↓wNot, ↓wAndV, ↓wOrV, ↓wNotV, ↓wIf, ↓wCallP, ↓wCallV, ↓wCa, ↓wTup, ↓wLst, ↓oNon, ↓oSom, ↓wSlice, ↓wRev, ↓vP, ↓vSh, ↓vFit, ↓vaNil, ↓vaCons, ↓vLst, ↓vTup, ↓vTup0, ↓vList, ↓vRep, ↓vSlice, ↓cSl, ↓vCallN, ↓v1, ↓vCa, ↓vIx, ↓tP, ↓vAnd, ↓vOr, ↓vNot, ↓vIf, ↓vT, ↓v2, ↓vLc, ↓gI2, ↓gI2c, ↓gLen, ↓gII, ↓gI, ↓gInt1, ↓gRep, ↓gCat, ↓gKids, ↓gIn, ↓iLst, ↓TL.iTup, ↓TL.iRng1, ↓TL.iRng2, ↓iEn, ↓iZp, ↓hName, ↓hCons, ↓hNil, ↓hTup, ↓wSl, ↓wIsi, ↓wYes, rho0, iniE, entOf, allSh, List.replicate, List.length_cons, List.length_nil, Nat.reduceAdd, Nat.reduceSub, Nat.reduceLT, Nat.reduceLeDiff, List.cons_append, List.nil_append, List.getElem?_cons_zero, List.getElem?_cons_succ, Option.bind_some, Ent.tr, Ent.own, Ent.put, setE, killA, noAl_ow, noAl_io1, noAl_no, noAl_ro, noAl_al', killJ_cons, killJ_nil0, noRo_ow, noRo_io, noRo_no, noRo_al, mem1, notIn, noRA_ow, noRA_io, noRA_no, noRA_al, Plc, demE, List.foldl_cons, List.foldl_nil, List.map_cons, List.map_nil, List.set_cons_zero, List.set_cons_succ, endsOf, ↓outsOf, Option.map_some, plSet, TL.putAt, T.put, true_and, and_true, lst_set, lst_snoc, lm_set, lm_snoc, shOnly, shE_ow0, shE_ow1, shE_io, shE_no, Option.isSome_some, reduceIte, if_true, if_false, Bool.false_eq_true, Nat.reduceEqDiff]
  refine ⟨h0, ?_⟩
  cases e : isT .int t with
  | true =>
    rw [e, Bool.true_and] at h
    exact ⟨h0, rfl, h⟩
  | false =>
    rw [e, Bool.false_and] at h
    exact ⟨rfl, h⟩
-- the trees that are compared
mutual
def smlT : T → Bool
  | .tup ts => decide (ts.length ≤ 1000000) && smlTs ts
  | .lst ts => decide (ts.length ≤ 1000000) && smlTs ts
  | _ => true
def smlTs : List T → Bool
  | [] => true
  | t :: ts => smlT t && smlTs ts
end
theorem smlTs_iff : ∀ {ts : List T}, smlTs ts = true ↔ ∀ t ∈ ts, smlT t = true
  | [] => by simp [smlTs]
  | t :: ts => by rw [smlTs, Bool.and_eq_true, smlTs_iff]; simp
def W__law_same (n : Nat) : FnT := fun ts R => ∃ t, ts = [t, t] ∧ n ≤ 60 ∧ t.okd n = true ∧ smlT t = true ∧ R 0 (.bl true) []
theorem ok__law_same : ∀ (n : Nat) {k : Nat} (G : Gs K mg), FnOk P w K mg base CX0 (k + (n + 2)) G.g__law_same.f G.g__law_same.d ["told", "due"] (spT K (allSh 2) (W__law_same n))
  | 0, k, G => by
    refine fnT (k := k + 1) G.g__law_same.F sc__law_same rfl (fun X cdv A outer s H E hX hr => ?_)
    subst hX
    refine ⟨_, (ts_cons (ts_if (tvt_p (tpt_cmp op_isN opT_isN (tp_var 1) tp_non (nomark _))) (ts_one (ts_ret (tv_p (tp_cmp op_isN opT_isN (tp_var 0) tp_non (nomark _))))) ts_nil)
      (ts_cons (ts_if (tvt_p (TPW.pt (tpw_or (tpt_cmp op_isBV opT_isBV (tp_var 1) tp_bl (nomark _)) (tpw_or1 (tpt_cmp op_isBV opT_isBV (tp_var 1) tp_bl (nomark _)))))) (ts_one (ts_ret (tv_p (tp_and (tp_isi .bool (by rfl) G.z_isinstance (by rfl) G.z_bool (by decide +kernel) (tp_var 0)) (tp_one (tp_cmp (op_eqD (eqU hr)) opT_eqD (tp_var 0) (tp_var 1) (nomark _))))))) ts_nil)
      (ts_cons (ts_if (tvt_p (tpt_val (tp_isi .int (by rfl) G.z_isinstance (by rfl) G.z_int (by decide +kernel) (tp_var 1)))) (ts_one (ts_ret (tv_p (tp_and (tp_call (ok__law_whole (k := k + 0) G) hr (by rfl) G.g__law_whole.g G.g__law_whole.F.kp G.g__law_whole.b (tpa_cons (tp_var 0) tpa_nil)) (tp_one (tp_cmp (op_eqD (eqU hr)) opT_eqD (tp_var 0) (tp_var 1) (nomark _))))))) ts_nil)
      (ts_cons (ts_if (tvt_p (tpt_val (tp_isi .str (by rfl) G.z_isinstance (by rfl) G.z_str (by decide +kernel) (tp_var 1)))) (ts_one (ts_ret (tv_p (tp_and (tp_isi .str (by rfl) G.z_isinstance (by rfl) G.z_str (by decide +kernel) (tp_var 0)) (tp_one (tp_cmp (op_eqD (eqU hr)) opT_eqD (tp_var 0) (tp_var 1) (nomark _))))))) ts_nil)
      (ts_cons (ts_if (tvt_p (tpt_val (tp_isi .dict (by rfl) G.z_isinstance (by rfl) G.z_dict (by decide +kernel) (tp_var 1)))) tss_never ts_nil)
      (ts_cons ts_never
      (ts_cons ts_never
      (ts_cons ts_never
      (ts_cons ts_never
      (ts_one (ts_ret (tv_p tp_bl)))))))))))), fun ts R hW hlen => ?_⟩
    obtain ⟨t, rfl, h60, h1, h2, h⟩ := hW
    have he := okd_eqok h1 (by omega)
    have hv := okd_refl h1
    have hty : t.tyn.isSome = true := by cases t <;> first | rfl | exact absurd (show false = true from h1) Bool.false_ne_true
    simp -dsimp only [he, hv, hty, isNon, isBl, ↓uSeq, ↓uNext, ↓uFor, ↓uSt, ↓uStV, ↓uAu, ↓uAp, ↓uApMv, ↓uAuN, ↓uAlias, ↓uDem, ↓uBrk, ↓uCnt, ↓uNev, ↓uRet, ↓uRetN, ↓uExp, ↓uExpP, ↓uSet, ↓uSetR, ↓uIf, ↓wVar, ↓wVarV, ↓wC, ↓w1, ↓w2, ↓wT, asB, ↓wChain, ↓wNil, ↓wCons, ↓wAnd, ↓wOr, ↓wNot, ↓wAndV, ↓wOrV, ↓wNotV, ↓wIf, ↓wCallP, ↓wCallV, ↓wCa, ↓wTup, ↓wLst, ↓oNon, ↓oSom, ↓wSlice, ↓wRev, ↓vP, ↓vSh, ↓vFit, ↓vaNil, ↓vaCons, ↓vLst, ↓vTup, ↓vTup0, ↓vList, ↓vRep, ↓vSlice, ↓cSl, ↓vCallN, ↓v1, ↓vCa, ↓vIx, ↓tP, ↓vAnd, ↓vOr, ↓vNot, ↓vIf, ↓vT, ↓v2, ↓vLc, ↓gI2, ↓gI2c, ↓gLen, ↓gII, ↓gI, ↓gInt1, ↓gRep, ↓gCat, ↓gKids, ↓gIn, ↓iLst, ↓TL.iTup, ↓TL.iRng1, ↓TL.iRng2, ↓iEn, ↓iZp, ↓hName, ↓hCons, ↓hNil, ↓hTup, ↓wSl, ↓wIsi, ↓wYes, rho0, iniE, entOf, allSh, List.replicate, List.length_cons, List.length_nil, Nat.reduceAdd, Nat.reduceSub, Nat.reduceLT, Nat.reduceLeDiff, List.cons_append, List.nil_append, List.getElem?_cons_zero, List.getElem?_cons_succ, Option.bind_some, Ent.tr, Ent.own, Ent.put, setE, killA, noAl_ow, noAl_io1, noAl_no, noAl_ro, noAl_al', killJ_cons, killJ_nil0, noRo_ow, noRo_io, noRo_no, noRo_al, mem1, notIn, noRA_ow, noRA_io, noRA_no, noRA_al, Plc, demE, List.foldl_cons, List.foldl_nil, List.map_cons, List.map_nil, List.set_cons_zero, List.set_cons_succ, endsOf, ↓outsOf, Option.map_some, plSet, TL.putAt, T.put, true_and, and_true, lst_set, lst_snoc, lm_set, lm_snoc, shOnly, shE_ow0, shE_ow1, shE_io, shE_no, Option.isSome_some, reduceIte, if_true, if_false, Bool.false_eq_true, Nat.reduceEqDiff]
    have nf := Bool.false_ne_true
    cases t with
    | non => exact ifT rfl ⟨rfl, h⟩
    | bl b =>
      cases b with
      | true => exact ifF nf (ifT rfl (ifT rfl ⟨rfl, h⟩))
      | false => exact ifF nf (ifF nf (ifT rfl (ifT rfl ⟨rfl, h⟩)))
    | int i => exact ifF nf (ifF nf (ifF nf (ifT rfl ⟨_, rfl, rfl, ifT rfl ⟨rfl, h⟩⟩)))
    | str s => exact ifF nf (ifF nf (ifF nf (ifF nf (ifT rfl (ifT rfl ⟨rfl, h⟩)))))
    | _ => exact absurd (show false = true from h1) nf
  | n + 1, k, G => by
    have IH := @ok__law_same n k G
    refine fnT (k := k + (n + 2)) G.g__law_same.F sc__law_same rfl (fun X cdv A outer s H E hX hr => ?_)
    subst hX
    refine ⟨_, (ts_cons (ts_if (tvt_p (tpt_cmp op_isN opT_isN (tp_var 1) tp_non (nomark _))) (ts_one (ts_ret (tv_p (tp_cmp op_isN opT_isN (tp_var 0) tp_non (nomark _))))) ts_nil)
      (ts_cons (ts_if (tvt_p (TPW.pt (tpw_or (tpt_cmp op_isBV opT_isBV (tp_var 1) tp_bl (nomark _)) (tpw_or1 (tpt_cmp op_isBV opT_isBV (tp_var 1) tp_bl (nomark _)))))) (ts_one (ts_ret (tv_p (tp_and (tp_isi .bool (by rfl) G.z_isinstance (by rfl) G.z_bool (by decide +kernel) (tp_var 0)) (tp_one (tp_cmp (op_eqD (eqU hr)) opT_eqD (tp_var 0) (tp_var 1) (nomark _))))))) ts_nil)
      (ts_cons (ts_if (tvt_p (tpt_val (tp_isi .int (by rfl) G.z_isinstance (by rfl) G.z_int (by decide +kernel) (tp_var 1)))) (ts_one (ts_ret (tv_p (tp_and (tp_call (ok__law_whole (k := k + (n + 1)) G) hr (by rfl) G.g__law_whole.g G.g__law_whole.F.kp G.g__law_whole.b (tpa_cons (tp_var 0) tpa_nil)) (tp_one (tp_cmp (op_eqD (eqU hr)) opT_eqD (tp_var 0) (tp_var 1) (nomark _))))))) ts_nil)
      (ts_cons (ts_if (tvt_p (tpt_val (tp_isi .str (by rfl) G.z_isinstance (by rfl) G.z_str (by decide +kernel) (tp_var 1)))) (ts_one (ts_ret (tv_p (tp_and (tp_isi .str (by rfl) G.z_isinstance (by rfl) G.z_str (by decide +kernel) (tp_var 0)) (tp_one (tp_cmp (op_eqD (eqU hr)) opT_eqD (tp_var 0) (tp_var 1) (nomark _))))))) ts_nil)
      (ts_cons (ts_if (tvt_p (tpt_val (tp_isi .dict (by rfl) G.z_isinstance (by rfl) G.z_dict (by decide +kernel) (tp_var 1)))) tss_never ts_nil)
      (ts_cons (ts_if (tvt_p (TPW.pt (tpw_and (tpt_val (tp_isi .list (by rfl) G.z_isinstance (by rfl) G.z_list (by decide +kernel) (tp_var 1))) (tpw_and1 (tpt_not (tpt_val (tp_isi .list (by rfl) G.z_isinstance (by rfl) G.z_list (by decide +kernel) (tp_var 0)))))))) (ts_one (ts_ret (tv_p tp_bl))) ts_nil)
      (ts_cons (ts_if (tvt_p (TPW.pt (tpw_and (tpt_val (tp_isi .tup (by rfl) G.z_isinstance (by rfl) G.z_tuple (by decide +kernel) (tp_var 1))) (tpw_and1 (tpt_not (tpt_val (tp_isi .tup (by rfl) G.z_isinstance (by rfl) G.z_tuple (by decide +kernel) (tp_var 0)))))))) (ts_one (ts_ret (tv_p tp_bl))) ts_nil)
      (ts_cons (ts_if (tvt_p (tpt_cmp op_ne opT_neS (tp_callB call_len_seq caT_len (by rfl) G.z_len PySem.boot_len (tpa_cons (tp_var 0) tpa_nil)) (tp_callB call_len_seq caT_len (by rfl) G.z_len PySem.boot_len (tpa_cons (tp_var 1) tpa_nil)) (nomark _))) (ts_one (ts_ret (tv_p tp_bl))) ts_nil)
      (ts_cons (ts_for PassesOwn.never rfl (ti_rng1 (by rfl) G.z_range (tp_callB call_len_seq caT_len (by rfl) G.z_len PySem.boot_len (tpa_cons (tp_var 1) tpa_nil))) (tg_name 2 sc__law_same.nd rfl (.inl rfl)) (ts_one (ts_if (tvt_p (tpt_not (tpt_val (tp_call IH hr (by rfl) G.g__law_same.g G.g__law_same.F.kp G.g__law_same.b (tpa_cons (tp_ix (tp_var 0) (tp_var 2) (fun _ _ => rfl)) (tpa_cons (tp_ix (tp_var 1) (tp_var 2) (fun _ _ => rfl)) tpa_nil)))))) (ts_one (ts_ret (tv_p tp_bl))) ts_nil)))
      (ts_one (ts_ret (tv_p tp_bl)))))))))))), fun ts R hW hlen => ?_⟩
    obtain ⟨t, rfl, h60, h1, h2, h⟩ := hW
    have he := okd_eqok h1 (by omega)
    have hv := okd_refl h1
    have hty : t.tyn.isSome = true := by cases t <;> first | rfl | exact absurd (show false = true from h1) Bool.false_ne_true
    simp -dsimp only [he, hv, hty, isNon, isBl, ↓uSeq, ↓uNext, ↓uFor, ↓uSt, ↓uStV, ↓uAu, ↓uAp, ↓uApMv, ↓uAuN, ↓uAlias, ↓uDem, ↓uBrk, ↓uCnt, ↓uNev, ↓uRet, ↓uRetN, ↓uExp, ↓uExpP, ↓uSet, ↓uSetR, ↓uIf, ↓wVar, ↓wVarV, ↓wC, ↓w1, ↓w2, ↓wT, asB, ↓wChain, ↓wNil, ↓wCons, ↓wAnd, ↓wOr, ↓wNot, ↓wAndV, ↓wOrV, ↓wNotV, ↓wIf, ↓wCallP, ↓wCallV, ↓wCa, ↓wTup, ↓wLst, ↓oNon, ↓oSom, ↓wSlice, ↓wRev, ↓vP, ↓vSh, ↓vFit, ↓vaNil, ↓vaCons, ↓vLst, ↓vTup, ↓vTup0, ↓vList, ↓vRep, ↓vSlice, ↓cSl, ↓vCallN, ↓v1, ↓vCa, ↓vIx, ↓tP, ↓vAnd, ↓vOr, ↓vNot, ↓vIf, ↓vT, ↓v2, ↓vLc, ↓gI2, ↓gI2c, ↓gLen, ↓gII, ↓gI, ↓gInt1, ↓gRep, ↓gCat, ↓gKids, ↓gIn, ↓iLst, ↓TL.iTup, ↓TL.iRng1, ↓TL.iRng2, ↓iEn, ↓iZp, ↓hName, ↓hCons, ↓hNil, ↓hTup, ↓wSl, ↓wIsi, ↓wYes, rho0, iniE, entOf, allSh, List.replicate, List.length_cons, List.length_nil, Nat.reduceAdd, Nat.reduceSub, Nat.reduceLT, Nat.reduceLeDiff, List.cons_append, List.nil_append, List.getElem?_cons_zero, List.getElem?_cons_succ, Option.bind_some, Ent.tr, Ent.own, Ent.put, setE, killA, noAl_ow, noAl_io1, noAl_no, noAl_ro, noAl_al', killJ_cons, killJ_nil0, noRo_ow, noRo_io, noRo_no, noRo_al, mem1, notIn, noRA_ow, noRA_io, noRA_no, noRA_al, Plc, demE, List.foldl_cons, List.foldl_nil, List.map_cons, List.map_nil, List.set_cons_zero, List.set_cons_succ, endsOf, ↓outsOf, Option.map_some, plSet, TL.putAt, T.put, true_and, and_true, lst_set, lst_snoc, lm_set, lm_snoc, shOnly, shE_ow0, shE_ow1, shE_io, shE_no, Option.isSome_some, reduceIte, if_true, if_false, Bool.false_eq_true, Nat.reduceEqDiff]
    have nf := Bool.false_ne_true
    cases t with
    | non => exact ifT rfl ⟨rfl, h⟩
    | bl b =>
      cases b with
      | true => exact ifF nf (ifT rfl (ifT rfl ⟨rfl, h⟩))
      | false => exact ifF nf (ifF nf (ifT rfl (ifT rfl ⟨rfl, h⟩)))
    | int i => exact ifF nf (ifF nf (ifF nf (ifT rfl ⟨_, rfl, rfl, ifT rfl ⟨rfl, h⟩⟩)))
    | str s => exact ifF nf (ifF nf (ifF nf (ifF nf (ifT rfl (ifT rfl ⟨rfl, h⟩)))))
    | lst us =>
      have h1 : T.okds us n = true := h1
      have h2 : (decide (us.length ≤ 1000000) && smlTs us) = true := by rw [smlT] at h2; exact h2
      rw [Bool.and_eq_true, decide_eq_true_eq] at h2
      refine ifF nf (ifF nf (ifF nf (ifF nf (ifF nf (ifF nf (ifT rfl (ifF nf (ifF nf (ifF (by simp) ⟨by omega, by omega, fun _ ρ => ∃ x2 x3 x4, ρ = [Ent.ow 0 (T.lst us), Ent.ow 0 (T.lst us), x2, x3, x4], ⟨_, _, _, rfl⟩, fun i t ρ hi hI => ?_, fun ρ hI => ?_⟩)))))))))
      · obtain ⟨x2, x3, x4, rfl⟩ := hI
        obtain ⟨hlt, rfl⟩ := rgT_get.mp hi
        rw [Int.zero_add]
        rw [Int.toNat_natCast] at hlt
        have hu := List.getElem?_eq_getElem hlt
        have hm := List.getElem_mem hlt
        simp -dsimp only [↓uSeq, ↓uNext, ↓uFor, ↓uSt, ↓uStV, ↓uAu, ↓uAp, ↓uApMv, ↓uAuN, ↓uAlias, ↓uDem, ↓uBrk, ↓uCnt, ↓uNev, ↓uRet, ↓uRetN, ↓uExp, ↓uExpP, ↓uSet, ↓uSetR, ↓uIf, ↓wVar, ↓wVarV, ↓wC, ↓w1, ↓w2, ↓wT, asB, ↓wChain, ↓wNil, ↓wCons, ↓wAnd, ↓wOr, ↓wNot, ↓wAndV, ↓wOrV, ↓wNotV, ↓wIf, ↓wCallP, ↓wCallV, ↓wCa, ↓wTup, ↓wLst, ↓oNon, ↓oSom, ↓wSlice, ↓wRev, ↓vP, ↓vSh, ↓vFit, ↓vaNil, ↓vaCons, ↓vLst, ↓vTup, ↓vTup0, ↓vList, ↓vRep, ↓vSlice, ↓cSl, ↓vCallN, ↓v1, ↓vCa, ↓vIx, ↓tP, ↓vAnd, ↓vOr, ↓vNot, ↓vIf, ↓vT, ↓v2, ↓vLc, ↓gI2, ↓gI2c, ↓gLen, ↓gII, ↓gI, ↓gInt1, ↓gRep, ↓gCat, ↓gKids, ↓gIn, ↓iLst, ↓TL.iTup, ↓TL.iRng1, ↓TL.iRng2, ↓iEn, ↓iZp, ↓hName, ↓hCons, ↓hNil, ↓hTup, ↓wSl, ↓wIsi, ↓wYes, rho0, iniE, entOf, allSh, List.replicate, List.length_cons, List.length_nil, Nat.reduceAdd, Nat.reduceSub, Nat.reduceLT, Nat.reduceLeDiff, List.cons_append, List.nil_append, List.getElem?_cons_zero, List.getElem?_cons_succ, Option.bind_some, Ent.tr, Ent.own, Ent.put, setE, killA, noAl_ow, noAl_io1, noAl_no, noAl_ro, noAl_al', killJ_cons, killJ_nil0, noRo_ow, noRo_io, noRo_no, noRo_al, mem1, notIn, noRA_ow, noRA_io, noRA_no, noRA_al, Plc, demE, List.foldl_cons, List.foldl_nil, List.map_cons, List.map_nil, List.set_cons_zero, List.set_cons_succ, endsOf, ↓outsOf, Option.map_some, plSet, TL.putAt, T.put, true_and, and_true, lst_set, lst_snoc, lm_set, lm_snoc, shOnly, shE_ow0, shE_ow1, shE_io, shE_no, Option.isSome_some, reduceIte, if_true, if_false, Bool.false_eq_true, Nat.reduceEqDiff]
        exact gIx_lst hu (gIx_lst hu ⟨_, rfl, by omega, okds_iff.mp h1 _ hm, smlTs_iff.mp h2.2 _ hm, ifF nf ⟨_, _, _, rfl⟩⟩)
      · obtain ⟨x2, x3, x4, rfl⟩ := hI
        simp -dsimp only [↓uSeq, ↓uNext, ↓uFor, ↓uSt, ↓uStV, ↓uAu, ↓uAp, ↓uApMv, ↓uAuN, ↓uAlias, ↓uDem, ↓uBrk, ↓uCnt, ↓uNev, ↓uRet, ↓uRetN, ↓uExp, ↓uExpP, ↓uSet, ↓uSetR, ↓uIf, ↓wVar, ↓wVarV, ↓wC, ↓w1, ↓w2, ↓wT, asB, ↓wChain, ↓wNil, ↓wCons, ↓wAnd, ↓wOr, ↓wNot, ↓wAndV, ↓wOrV, ↓wNotV, ↓wIf, ↓wCallP, ↓wCallV, ↓wCa, ↓wTup, ↓wLst, ↓oNon, ↓oSom, ↓wSlice, ↓wRev, ↓vP, ↓vSh, ↓vFit, ↓vaNil, ↓vaCons, ↓vLst, ↓vTup, ↓vTup0, ↓vList, ↓vRep, ↓vSlice, ↓cSl, ↓vCallN, ↓v1, ↓vCa, ↓vIx, ↓tP, ↓vAnd, ↓vOr, ↓vNot, ↓vIf, ↓vT, ↓v2, ↓vLc, ↓gI2, ↓gI2c, ↓gLen, ↓gII, ↓gI, ↓gInt1, ↓gRep, ↓gCat, ↓gKids, ↓gIn, ↓iLst, ↓TL.iTup, ↓TL.iRng1, ↓TL.iRng2, ↓iEn, ↓iZp, ↓hName, ↓hCons, ↓hNil, ↓hTup, ↓wSl, ↓wIsi, ↓wYes, rho0, iniE, entOf, allSh, List.replicate, List.length_cons, List.length_nil, Nat.reduceAdd, Nat.reduceSub, Nat.reduceLT, Nat.reduceLeDiff, List.cons_append, List.nil_append, List.getElem?_cons_zero, List.getElem?_cons_succ, Option.bind_some, Ent.tr, Ent.own, Ent.put, setE, killA, noAl_ow, noAl_io1, noAl_no, noAl_ro, noAl_al', killJ_cons, killJ_nil0, noRo_ow, noRo_io, noRo_no, noRo_al, mem1, notIn, noRA_ow, noRA_io, noRA_no, noRA_al, Plc, demE, List.foldl_cons, List.foldl_nil, List.map_cons, List.map_nil, List.set_cons_zero, List.set_cons_succ, endsOf, ↓outsOf, Option.map_some, plSet, TL.putAt, T.put, true_and, and_true, lst_set, lst_snoc, lm_set, lm_snoc, shOnly, shE_ow0, shE_ow1, shE_io, shE_no, Option.isSome_some, reduceIte, if_true, if_false, Bool.false_eq_true, Nat.reduceEqDiff]
        exact ⟨rfl, h⟩
    | tup us =>
      have h1 : T.okds us n = true := h1
      have h2 : (decide (us.length ≤ 1000000) && smlTs us) = true := by rw [smlT] at h2; exact h2
      rw [Bool.and_eq_true, decide_eq_true_eq] at h2
      refine ifF nf (ifF nf (ifF nf (ifF nf (ifF nf (ifF nf (ifF nf (ifT rfl (ifF nf (ifF (by simp) ⟨by omega, by omega, fun _ ρ => ∃ x2 x3 x4, ρ = [Ent.ow 0 (T.tup us), Ent.ow 0 (T.tup us), x2, x3, x4], ⟨_, _, _, rfl⟩, fun i t ρ hi hI => ?_, fun ρ hI => ?_⟩)))))))))
      · obtain ⟨x2, x3, x4, rfl⟩ := hI
        obtain ⟨hlt, rfl⟩ := rgT_get.mp hi
        rw [Int.zero_add]
        rw [Int.toNat_natCast] at hlt
        have hu := List.getElem?_eq_getElem hlt
        have hm := List.getElem_mem hlt
        simp -dsimp only [↓uSeq, ↓uNext, ↓uFor, ↓uSt, ↓uStV, ↓uAu, ↓uAp, ↓uApMv, ↓uAuN, ↓uAlias, ↓uDem, ↓uBrk, ↓uCnt, ↓uNev, ↓uRet, ↓uRetN, ↓uExp, ↓uExpP, ↓uSet, ↓uSetR, ↓uIf, ↓wVar, ↓wVarV, ↓wC, ↓w1, ↓w2, ↓wT, asB, ↓wChain, ↓wNil, ↓wCons, ↓wAnd, ↓wOr, ↓wNot, ↓wAndV, ↓wOrV, ↓wNotV, ↓wIf, ↓wCallP, ↓wCallV, ↓wCa, ↓wTup, ↓wLst, ↓oNon, ↓oSom, ↓wSlice, ↓wRev, ↓vP, ↓vSh, ↓vFit, ↓vaNil, ↓vaCons, ↓vLst, ↓vTup, ↓vTup0, ↓vList, ↓vRep, ↓vSlice, ↓cSl, ↓vCallN, ↓v1, ↓vCa, ↓vIx, ↓tP, ↓vAnd, ↓vOr, ↓vNot, ↓vIf, ↓vT, ↓v2, ↓vLc, ↓gI2, ↓gI2c, ↓gLen, ↓gII, ↓gI, ↓gInt1, ↓gRep, ↓gCat, ↓gKids, ↓gIn, ↓iLst, ↓TL.iTup, ↓TL.iRng1, ↓TL.iRng2, ↓iEn, ↓iZp, ↓hName, ↓hCons, ↓hNil, ↓hTup, ↓wSl, ↓wIsi, ↓wYes, rho0, iniE, entOf, allSh, List.replicate, List.length_cons, List.length_nil, Nat.reduceAdd, Nat.reduceSub, Nat.reduceLT, Nat.reduceLeDiff, List.cons_append, List.nil_append, List.getElem?_cons_zero, List.getElem?_cons_succ, Option.bind_some, Ent.tr, Ent.own, Ent.put, setE, killA, noAl_ow, noAl_io1, noAl_no, noAl_ro, noAl_al', killJ_cons, killJ_nil0, noRo_ow, noRo_io, noRo_no, noRo_al, mem1, notIn, noRA_ow, noRA_io, noRA_no, noRA_al, Plc, demE, List.foldl_cons, List.foldl_nil, List.map_cons, List.map_nil, List.set_cons_zero, List.set_cons_succ, endsOf, ↓outsOf, Option.map_some, plSet, TL.putAt, T.put, true_and, and_true, lst_set, lst_snoc, lm_set, lm_snoc, shOnly, shE_ow0, shE_ow1, shE_io, shE_no, Option.isSome_some, reduceIte, if_true, if_false, Bool.false_eq_true, Nat.reduceEqDiff]
        exact gIx_tup hu (gIx_tup hu ⟨_, rfl, by omega, okds_iff.mp h1 _ hm, smlTs_iff.mp h2.2 _ hm, ifF nf ⟨_, _, _, rfl⟩⟩)
      · obtain ⟨x2, x3, x4, rfl⟩ := hI
        simp -dsimp only [↓uSeq, ↓uNext, ↓uFor, ↓uSt, ↓uStV, ↓uAu, ↓uAp, ↓uApMv, ↓uAuN, ↓uAlias, ↓uDem, ↓uBrk, ↓uCnt, ↓uNev, ↓uRet, ↓uRetN, ↓uExp, ↓uExpP, ↓uSet, ↓uSetR, ↓uIf, ↓wVar, ↓wVarV, ↓wC, ↓w1, ↓w2, ↓wT, asB, ↓wChain, ↓wNil, ↓wCons, ↓wAnd, ↓wOr, ↓wNot, ↓wAndV, ↓wOrV, ↓wNotV, ↓wIf, ↓wCallP, ↓wCallV, ↓wCa, ↓wTup, ↓wLst, ↓oNon, ↓oSom, ↓wSlice, ↓wRev, ↓vP, ↓vSh, ↓vFit, ↓vaNil, ↓vaCons, ↓vLst, ↓vTup, ↓vTup0, ↓vList, ↓vRep, ↓vSlice, ↓cSl, ↓vCallN, ↓v1, ↓vCa, ↓vIx, ↓tP, ↓vAnd, ↓vOr, ↓vNot, ↓vIf, ↓vT, ↓v2, ↓vLc, ↓gI2, ↓gI2c, ↓gLen, ↓gII, ↓gI, ↓gInt1, ↓gRep, ↓gCat, ↓gKids, ↓gIn, ↓iLst, ↓TL.iTup, ↓TL.iRng1, ↓TL.iRng2, ↓iEn, ↓iZp, ↓hName, ↓hCons, ↓hNil, ↓hTup, ↓wSl, ↓wIsi, ↓wYes, rho0, iniE, entOf, allSh, List.replicate, List.length_cons, List.length_nil, Nat.reduceAdd, Nat.reduceSub, Nat.reduceLT, Nat.reduceLeDiff, List.cons_append, List.nil_append, List.getElem?_cons_zero, List.getElem?_cons_succ, Option.bind_some, Ent.tr, Ent.own, Ent.put, setE, killA, noAl_ow, noAl_io1, noAl_no, noAl_ro, noAl_al', killJ_cons, killJ_nil0, noRo_ow, noRo_io, noRo_no, noRo_al, mem1, notIn, noRA_ow, noRA_io, noRA_no, noRA_al, Plc, demE, List.foldl_cons, List.foldl_nil, List.map_cons, List.map_nil, List.set_cons_zero, List.set_cons_succ, endsOf, ↓outsOf, Option.map_some, plSet, TL.putAt, T.put, true_and, and_true, lst_set, lst_snoc, lm_set, lm_snoc, shOnly, shE_ow0, shE_ow1, shE_io, shE_no, Option.isSome_some, reduceIte, if_true, if_false, Bool.false_eq_true, Nat.reduceEqDiff]
        exact ⟨rfl, h⟩
    | _ => exact absurd (show false = true from h1) nf
end
end K94
set_option Elab.async false
set_option linter.all false
set_option maxRecDepth 100000
namespace K94
open PySem PySem.Spec PyProof.Rows L2 TL
section
variable {P : Program} {w : World} {K : PySem.W.Frag} {mg : Str → Option Value} {base : Heap}
theorem callDraw_io {R : Nat → T → List Ent → Prop} {u : KDep R} {a b c m : Int} {x : T} {ρ : List Ent} (h0 : 0 < m) (h1 : m < 1073741824) (h : ∀ v a' c', 0 ≤ v → v < m → R 0 (.int v) (.io 1 (Li [a', b, c']) :: killJ [0] ρ)) :
    callAt [.io 1, .sh] [.sl 0, .tv 0] W__law_draw R u [x, .int m] (.io 1 (Li [a, b, c]) :: ρ) := by
  unfold callAt
  rw [inT_io1]
  refine ⟨a, b, c, m, rfl, h0, h1, fun v a' c' h2 h3 => ?_⟩
  show R 0 (.int v) (putL [(0, Li [a', b, c'])] 0 (.io 1 (Li [a, b, c]) :: killJ [0] ρ))
  rw [putL_0]
  exact h v a' c' h2 h3
theorem callDraw_ow {R : Nat → T → List Ent → Prop} {u : KDep R} {a b c m : Int} {x : T} {ρ : List Ent} (h0 : 0 < m) (h1 : m < 1073741824) (h : ∀ v a' c', 0 ≤ v → v < m → R 0 (.int v) (.ow 1 (Li [a', b, c']) :: killJ [0] ρ)) :
    callAt [.io 1, .sh] [.sl 0, .tv 0] W__law_draw R u [x, .int m] (.ow 1 (Li [a, b, c]) :: ρ) := by
  unfold callAt
  rw [inT_ow1]
  refine ⟨a, b, c, m, rfl, h0, h1, fun v a' c' h2 h3 => ?_⟩
  show R 0 (.int v) (putL [(0, Li [a', b, c'])] 0 (.ow 1 (Li [a, b, c]) :: killJ [0] ρ))
  rw [putL_0]
  exact h v a' c' h2 h3
theorem callPick_io {R : Nat → T → List Ent → Prop} {u : KDep R} {a b c : Int} {xs : List Int} {x : T} {ρ : List Ent} (h0 : 0 < xs.length) (h1 : xs.length ≤ 1000) (h : ∀ v ∈ xs, ∀ a' c', R 0 (.int v) (.io 1 (Li [a', b, c']) :: killJ [0] ρ)) :
    callAt [.io 1, .sh] [.sl 0, .tv 0] W__law_pick R u [x, Li xs] (.io 1 (Li [a, b, c]) :: ρ) := by
  unfold callAt
  rw [inT_io1]
  refine ⟨a, b, c, xs, rfl, h0, h1, fun v hv a' c' => ?_⟩
  show R 0 (.int v) (putL [(0, Li [a', b, c'])] 0 (.io 1 (Li [a, b, c]) :: killJ [0] ρ))
  rw [putL_0]
  exact h v hv a' c'
theorem mn_min {x lv : Int} : (if lv < x then lv else x) = min x lv := by split <;> omega
theorem ij_ne {i j : Nat} (h : (!decide ((i : Int) = (j : Int))) = true) : i ≠ j := by
  rintro rfl
  simp at h
theorem ring_ne {i n : Nat} (h : 2 ≤ n) (hi : i < n) : i ≠ (((i : Int) + 1) % n).toNat := by
  by_cases e : i + 1 = n
  · have : ((i : Int) + 1) % n = 0 := by rw [show (i : Int) + 1 = (n : Int) by omega]; exact Int.emod_self
    rw [this]
    show i ≠ 0
    omega
  · have : ((i : Int) + 1) % n = (i : Int) + 1 := Int.emod_eq_of_lt (by omega) (by omega)
    rw [this]
    omega
theorem pick40 {v d : Int} (h : v ∈ [40, 1, 2, d]) (h0 : 0 ≤ d) (h1 : d < 41) : 0 ≤ v ∧ v ≤ 40 := by
  simp at h
  omega
structure Okr (m : List (List Int)) (n : Nat) : Prop where
  len : m.length = n
  row : ∀ r ∈ m, r.length = n ∧ ∀ x ∈ r, 0 ≤ x ∧ x ≤ 40
  dg : ∀ (i : Nat) r, m[i]? = some r → r[i]? = some 0
theorem Okr.set {m : List (List Int)} {n i j : Nat} {r : List Int} {v : Int} (h : Okr m n) (hr : m[i]? = some r) (hij : i ≠ j) (h0 : 0 ≤ v) (h1 : v ≤ 40) : Okr (m.set i (r.set j v)) n := by
  refine ⟨by rw [List.length_set]; exact h.len, fun q hq => ?row, fun k q hq => ?dg⟩
  case dg =>
    by_cases e : k = i
    · subst e
      rw [List.getElem?_set_self (List.getElem?_eq_some_iff.mp hr).1] at hq
      have hq := Option.some.inj hq
      subst hq
      rw [List.getElem?_set_ne (fun z => hij z.symm)]
      exact h.dg k r hr
    · rw [List.getElem?_set_ne (fun z => e z.symm)] at hq
      exact h.dg k q hq
  rcases List.mem_or_eq_of_mem_set hq with z | rfl
  · exact h.row q z
  · obtain ⟨a, b⟩ := h.row r (List.mem_of_getElem? hr)
    refine ⟨by rw [List.length_set]; exact a, fun x hx => ?_⟩
    rcases List.mem_or_eq_of_mem_set hx with z | rfl
    · exact b x z
    · exact ⟨h0, h1⟩
theorem Okr.setRow {m : List (List Int)} {n i : Nat} (h : Okr m n) : Okr (m.set i (List.replicate n 0)) n := by
  refine ⟨by rw [List.length_set]; exact h.len, fun q hq => ?row, fun k q hq => ?dg⟩
  case dg =>
    have kl : k < n := by have := (List.getElem?_eq_some_iff.mp hq).1; rw [List.length_set, h.len] at this; exact this
    by_cases e : k = i
    · subst e
      rw [List.getElem?_set_self (by rw [h.len]; exact kl)] at hq
      have hq := Option.some.inj hq
      subst hq
      rw [List.getElem?_replicate, if_pos kl]
    · rw [List.getElem?_set_ne (fun z => e z.symm)] at hq
      exact h.dg k q hq
  rcases List.mem_or_eq_of_mem_set hq with z | rfl
  · exact h.row q z
  · exact ⟨List.length_replicate, fun x hx => by rw [List.eq_of_mem_replicate hx]; omega⟩
theorem Okr.zero {n : Nat} : Okr (List.replicate n (List.replicate n 0)) n :=
  ⟨List.length_replicate, fun r hr => by rw [List.eq_of_mem_replicate hr]; exact ⟨List.length_replicate, fun x hx => by rw [List.eq_of_mem_replicate hx]; omega⟩, fun i r hr => by
    have kl := (List.getElem?_eq_some_iff.mp hr).1
    rw [List.length_replicate] at kl
    rw [List.getElem?_replicate, if_pos kl] at hr
    rw [← Option.some.inj hr, List.getElem?_replicate, if_pos kl]⟩
theorem repZ {n : Nat} : (List.replicate (n : Int).toNat [T.int 0]).flatten = (List.replicate n (0 : Int)).map T.int := by
  rw [List.map_replicate, Int.toNat_natCast]
  induction n with
  | zero => rfl
  | succ n ih => rw [List.replicate_succ, List.flatten_cons, ih]; rfl
theorem Okr.get {m : List (List Int)} {n i : Nat} (h : Okr m n) (hi : i < n) : ∃ r, m[i]? = some r ∧ r.length = n ∧ ixN (m.map fun xs => Li xs).length (i : Int) = some i ∧ (m.map fun xs => Li xs)[i]? = some (Li r) := by
  have hl : i < m.length := by rw [h.len]; exact hi
  refine ⟨m[i], List.getElem?_eq_getElem hl, (h.row _ (List.getElem_mem hl)).1, ixN_nat (by rw [List.length_map]; exact hl), mapLi_get.mpr ⟨_, List.getElem?_eq_getElem hl, rfl⟩⟩
def W__law_debts : FnT := fun ts R => ∃ (a b c : Int) (n : Nat), ts = [Li [a, b, c], .int n] ∧ 2 ≤ n ∧ n ≤ 6 ∧ ∀ m a' c', Okr m n → R 2 (Lm m) [Li [a', b, c']]
theorem ok__law_debts {k : Nat} (G : Gs K mg) : FnOk P w K mg base CX0 (k + 4) G.g__law_debts.f G.g__law_debts.d ["pool", "size"] (spT K [.io 1, .sh] W__law_debts) := by
  refine fnT (k := k + 3) G.g__law_debts.F sc__law_debts rfl (fun X cdv A outer s H E hX hr => ?_)
  subst hX
  refine ⟨_, (ts_cons (ts_set 2 sc__law_debts.nd rfl (.inl rfl) (tv_call (ok__law_draw (k := k + 1) G) hr (by rfl) G.g__law_draw.g G.g__law_draw.F.kp G.g__law_draw.b (tca_sl 0 (tca_tv 0 (tv_p tp_int) tca_nil))))
      (ts_cons (ts_setLc (i := 3) (hc := rfl) (hN := sc__law_debts.nd) (hy := rfl) (hyl := rfl) (hsw := sw_true rfl rfl rfl (by decide +kernel)) (own := [("k", 7)]) (k := 1) (js := [7]) (hi := (ti_rng1 (by rfl) G.z_range (tp_var 1))) (ok := (blkOk_by (N := ["pool", "size", "mode", "matrix", "i", "j", "coins", "k", "row"]) (sc := defScope s__law_debts) (by decide +kernel))) (hg := fun _ _ _ _ _ => (tg_name 7 sc__law_debts.nd rfl (.inl rfl))) (ht := fun _ _ _ _ _ => tvts_nil) (he := fun _ _ _ _ _ => (tv_rep (tp_lst (tpa_cons tp_int tpa_nil)) (tp_var 1))) (hj := by decide))
      (ts_cons (ts_for PassesOwn.never rfl (ti_rng1 (by rfl) G.z_range (tp_var 1)) (tg_name 4 sc__law_debts.nd rfl (.inl rfl)) (ts_one (ts_for PassesOwn.never rfl (ti_rng1 (by rfl) G.z_range (tp_var 1)) (tg_name 5 sc__law_debts.nd rfl (.inl rfl)) (ts_one (ts_if (TVW.pt (tvw_and (tvt_p (tpt_cmp op_ne opT_neS (tp_var 4) (tp_var 5) (nomark _))) (tvw_and1 (tvt_cmp op_eq opT_eqS (tv_call (ok__law_draw (k := k + 1) G) hr (by rfl) G.g__law_draw.g G.g__law_draw.F.kp G.g__law_draw.b (tca_sl 0 (tca_tv 0 (tv_p (tp_if (tpt_cmp op_gt opT_bl (tp_var 2) tp_int (nomark _)) tp_int tp_int)) tca_nil))) (tv_p tp_int) (nomark _))))) (ts_cons (ts_alias 8 3 sc__law_debts.nd rfl (.inl rfl) (tp_var 4) (fun _ _ => rfl))
      (ts_one (ts_store 8 (tv_call (ok__law_pick (k := k + 0) G) hr (by rfl) G.g__law_pick.g G.g__law_pick.F.kp G.g__law_pick.b (tca_sl 0 (tca_tv 0 (tv_lst 0 (tva_cons 0 (tv_p tp_int) (tva_cons 0 (tv_p tp_int) (tva_cons 0 (tv_p tp_int) (tva_cons 0 (tv_call (ok__law_draw (k := k + 1) G) hr (by rfl) G.g__law_draw.g G.g__law_draw.F.kp G.g__law_draw.b (tca_sl 0 (tca_tv 0 (tv_p tp_int) tca_nil))) tva_nil)))) (by simp) (by decide)) tca_nil))) (tp_var 5)))) ts_nil)))))
      (ts_cons (ts_if (tvt_p (tpt_cmp op_lt opT_bl (tp_var 2) tp_int (nomark _))) (ts_cons (ts_set 6 sc__law_debts.nd rfl (.inl rfl) (tv_call (ok__law_pick (k := k + 0) G) hr (by rfl) G.g__law_pick.g G.g__law_pick.F.kp G.g__law_pick.b (tca_sl 0 (tca_tv 0 (tv_lst 0 (tva_cons 0 (tv_p tp_int) (tva_cons 0 (tv_op op_add opT_int (tv_p tp_int) (tv_call (ok__law_draw (k := k + 1) G) hr (by rfl) G.g__law_draw.g G.g__law_draw.F.kp G.g__law_draw.b (tca_sl 0 (tca_tv 0 (tv_p tp_int) tca_nil)))) tva_nil)) (by simp) (by decide)) tca_nil))))
      (ts_one (ts_for PassesOwn.never rfl (ti_rng1 (by rfl) G.z_range (tp_var 1)) (tg_name 4 sc__law_debts.nd rfl (.inl rfl)) (ts_cons (ts_alias 8 3 sc__law_debts.nd rfl (.inl rfl) (tp_var 4) (fun _ _ => rfl))
      (ts_one (ts_store 8 (tv_p (tp_var 6)) (tp_op op_mod opT_intc (tp_callTy call_int1 caT_int1 (by rfl) G.z_int (by decide +kernel) (tpa_cons (tp_op op_add opT_int (tp_var 4) tp_int) tpa_nil)) (tp_var 1)))))))) ts_nil)
      (ts_cons (ts_if (tvt_p (tpt_cmp op_eq opT_eqS (tp_var 2) tp_int (nomark _))) (ts_one (ts_storeV 3 (tv_rep (tp_lst (tpa_cons tp_int tpa_nil)) (tp_var 1)) (tv_call (ok__law_draw (k := k + 1) G) hr (by rfl) G.g__law_draw.g G.g__law_draw.F.kp G.g__law_draw.b (tca_sl 0 (tca_tv 0 (tv_p (tp_var 1)) tca_nil))))) ts_nil)
      (ts_one (ts_ret (tv_var 3)))))))), fun ts R hW hlen => ?_⟩

  obtain ⟨a, b, c, n, rfl, h0, h1, h⟩ := hW
  simp -dsimp only [↓uSeq, ↓uNext, ↓uFor, ↓uSt, ↓uStV, ↓uAu, ↓uAp, ↓uApMv, ↓uAuN, ↓uAlias, ↓uDem, ↓uBrk, ↓uCnt, ↓uNev, ↓uRet, ↓uRetN, ↓uExp, ↓uExpP, ↓uSet, ↓uSetR, ↓uIf, ↓wVar, ↓wVarV, ↓wC, ↓w1, ↓w2, ↓wT, asB, ↓wChain, ↓wNil, ↓wCons, ↓wAnd, ↓wOr, ↓wNot, ↓wAndV, ↓wOrV, ↓wNotV, ↓wIf, ↓wCallP, ↓wCallV, ↓wCa, ↓wTup, ↓wLst, ↓oNon, ↓oSom, ↓wSlice, ↓wRev, ↓vP, ↓vSh, ↓vFit, ↓vaNil, ↓vaCons, ↓vLst, ↓vTup, ↓vTup0, ↓vList, ↓vRep, ↓vSlice, ↓cSl, ↓vCallN, ↓v1, ↓vCa, ↓vIx, ↓tP, ↓vAnd, ↓vOr, ↓vNot, ↓vIf, ↓vT, ↓v2, ↓vLc, ↓gI2, ↓gI2c, ↓gLen, ↓gII, ↓gI, ↓gInt1, ↓gRep, ↓gCat, ↓gKids, ↓gIn, ↓iLst, ↓TL.iTup, ↓TL.iRng1, ↓TL.iRng2, ↓iEn, ↓iZp, ↓hName, ↓hCons, ↓hNil, ↓hTup, ↓wSl, ↓wIsi, ↓wYes, rho0, iniE, entOf, allSh, List.replicate, List.length_cons, List.length_nil, Nat.reduceAdd, Nat.reduceSub, Nat.reduceLT, Nat.reduceLeDiff, List.cons_append, List.nil_append, List.getElem?_cons_zero, List.getElem?_cons_succ, Option.bind_some, Ent.tr, Ent.own, Ent.put, setE, killA, noAl_ow, noAl_io1, noAl_no, noAl_ro, noAl_al', killJ_cons, killJ_nil0, noRo_ow, noRo_io, noRo_no, noRo_al, mem1, notIn, noRA_ow, noRA_io, noRA_no, noRA_al, Plc, demE, List.foldl_cons, List.foldl_nil, List.map_cons, List.map_nil, List.set_cons_zero, List.set_cons_succ, endsOf, ↓outsOf, Option.map_some, plSet, TL.putAt, T.put, true_and, and_true, lst_set, lst_snoc, lm_set, lm_snoc, shOnly, shE_ow0, shE_ow1, shE_io, shE_no, Option.isSome_some, reduceIte, if_true, if_false, Bool.false_eq_true, Nat.reduceEqDiff]
  refine ⟨rfl, fit0, callDraw_io (by decide) (by decide) fun mode a1 c1 _ _ => ?_⟩
  simp -dsimp only [↓uSeq, ↓uNext, ↓uFor, ↓uSt, ↓uStV, ↓uAu, ↓uAp, ↓uApMv, ↓uAuN, ↓uAlias, ↓uDem, ↓uBrk, ↓uCnt, ↓uNev, ↓uRet, ↓uRetN, ↓uExp, ↓uExpP, ↓uSet, ↓uSetR, ↓uIf, ↓wVar, ↓wVarV, ↓wC, ↓w1, ↓w2, ↓wT, asB, ↓wChain, ↓wNil, ↓wCons, ↓wAnd, ↓wOr, ↓wNot, ↓wAndV, ↓wOrV, ↓wNotV, ↓wIf, ↓wCallP, ↓wCallV, ↓wCa, ↓wTup, ↓wLst, ↓oNon, ↓oSom, ↓wSlice, ↓wRev, ↓vP, ↓vSh, ↓vFit, ↓vaNil, ↓vaCons, ↓vLst, ↓vTup, ↓vTup0, ↓vList, ↓vRep, ↓vSlice, ↓cSl, ↓vCallN, ↓v1, ↓vCa, ↓vIx, ↓tP, ↓vAnd, ↓vOr, ↓vNot, ↓vIf, ↓vT, ↓v2, ↓vLc, ↓gI2, ↓gI2c, ↓gLen, ↓gII, ↓gI, ↓gInt1, ↓gRep, ↓gCat, ↓gKids, ↓gIn, ↓iLst, ↓TL.iTup, ↓TL.iRng1, ↓TL.iRng2, ↓iEn, ↓iZp, ↓hName, ↓hCons, ↓hNil, ↓hTup, ↓wSl, ↓wIsi, ↓wYes, rho0, iniE, entOf, allSh, List.replicate, List.length_cons, List.length_nil, Nat.reduceAdd, Nat.reduceSub, Nat.reduceLT, Nat.reduceLeDiff, List.cons_append, List.nil_append, List.getElem?_cons_zero, List.getElem?_cons_succ, Option.bind_some, Ent.tr, Ent.own, Ent.put, setE, killA, noAl_ow, noAl_io1, noAl_no, noAl_ro, noAl_al', killJ_cons, killJ_nil0, noRo_ow, noRo_io, noRo_no, noRo_al, mem1, notIn, noRA_ow, noRA_io, noRA_no, noRA_al, Plc, demE, List.foldl_cons, List.foldl_nil, List.map_cons, List.map_nil, List.set_cons_zero, List.set_cons_succ, endsOf, ↓outsOf, Option.map_some, plSet, TL.putAt, T.put, true_and, and_true, lst_set, lst_snoc, lm_set, lm_snoc, shOnly, shE_ow0, shE_ow1, shE_io, shE_no, Option.isSome_some, reduceIte, if_true, if_false, Bool.false_eq_true, Nat.reduceEqDiff]
  refine ⟨by omega, by omega, fun i acc ρ => ∃ as, acc = List.map (fun xs => Li xs) as ∧ as = List.replicate i (List.replicate n 0) ∧ ρ = [Ent.io 1 (Li [a1, b, c1]), Ent.ow 0 (T.int n), Ent.ow 0 (T.int mode), Ent.no, Ent.no, Ent.no, Ent.no, Ent.no, Ent.no], ⟨[], rfl, rfl, rfl⟩, fun i t acc ρ hi hI => ?_, fun acc ρ hI => ?_⟩
  · obtain ⟨as, rfl, ha, rfl⟩ := hI
    obtain ⟨hlt, rfl⟩ := rgT_get.mp hi
    simp -dsimp only [↓uSeq, ↓uNext, ↓uFor, ↓uSt, ↓uStV, ↓uAu, ↓uAp, ↓uApMv, ↓uAuN, ↓uAlias, ↓uDem, ↓uBrk, ↓uCnt, ↓uNev, ↓uRet, ↓uRetN, ↓uExp, ↓uExpP, ↓uSet, ↓uSetR, ↓uIf, ↓wVar, ↓wVarV, ↓wC, ↓w1, ↓w2, ↓wT, asB, ↓wChain, ↓wNil, ↓wCons, ↓wAnd, ↓wOr, ↓wNot, ↓wAndV, ↓wOrV, ↓wNotV, ↓wIf, ↓wCallP, ↓wCallV, ↓wCa, ↓wTup, ↓wLst, ↓oNon, ↓oSom, ↓wSlice, ↓wRev, ↓vP, ↓vSh, ↓vFit, ↓vaNil, ↓vaCons, ↓vLst, ↓vTup, ↓vTup0, ↓vList, ↓vRep, ↓vSlice, ↓cSl, ↓vCallN, ↓v1, ↓vCa, ↓vIx, ↓tP, ↓vAnd, ↓vOr, ↓vNot, ↓vIf, ↓vT, ↓v2, ↓vLc, ↓gI2, ↓gI2c, ↓gLen, ↓gII, ↓gI, ↓gInt1, ↓gRep, ↓gCat, ↓gKids, ↓gIn, ↓iLst, ↓TL.iTup, ↓TL.iRng1, ↓TL.iRng2, ↓iEn, ↓iZp, ↓hName, ↓hCons, ↓hNil, ↓hTup, ↓wSl, ↓wIsi, ↓wYes, rho0, iniE, entOf, allSh, List.replicate, List.length_cons, List.length_nil, Nat.reduceAdd, Nat.reduceSub, Nat.reduceLT, Nat.reduceLeDiff, List.cons_append, List.nil_append, List.getElem?_cons_zero, List.getElem?_cons_succ, Option.bind_some, Ent.tr, Ent.own, Ent.put, setE, killA, noAl_ow, noAl_io1, noAl_no, noAl_ro, noAl_al', killJ_cons, killJ_nil0, noRo_ow, noRo_io, noRo_no, noRo_al, mem1, notIn, noRA_ow, noRA_io, noRA_no, noRA_al, Plc, demE, List.foldl_cons, List.foldl_nil, List.map_cons, List.map_nil, List.set_cons_zero, List.set_cons_succ, endsOf, ↓outsOf, Option.map_some, plSet, TL.putAt, T.put, true_and, and_true, lst_set, lst_snoc, lm_set, lm_snoc, shOnly, shE_ow0, shE_ow1, shE_io, shE_no, Option.isSome_some, reduceIte, if_true, if_false, Bool.false_eq_true, Nat.reduceEqDiff]
    refine ⟨by omega, by omega, by omega, by rw [repZ]; exact flats_ints _, .inl (Nat.le_refl _), ?_, as ++ [List.replicate n 0], ?_, ?_⟩
    · subst ha; simp; omega
    · rw [repZ, List.map_append]; rfl
    · rw [ha, ← List.replicate_succ']; rfl
  · obtain ⟨as, rfl, ha, rfl⟩ := hI
    rw [rgT_len, Int.toNat_natCast] at ha
    have hok : Okr as n := ha ▸ Okr.zero
    clear ha
    simp -dsimp only [↓uSeq, ↓uNext, ↓uFor, ↓uSt, ↓uStV, ↓uAu, ↓uAp, ↓uApMv, ↓uAuN, ↓uAlias, ↓uDem, ↓uBrk, ↓uCnt, ↓uNev, ↓uRet, ↓uRetN, ↓uExp, ↓uExpP, ↓uSet, ↓uSetR, ↓uIf, ↓wVar, ↓wVarV, ↓wC, ↓w1, ↓w2, ↓wT, asB, ↓wChain, ↓wNil, ↓wCons, ↓wAnd, ↓wOr, ↓wNot, ↓wAndV, ↓wOrV, ↓wNotV, ↓wIf, ↓wCallP, ↓wCallV, ↓wCa, ↓wTup, ↓wLst, ↓oNon, ↓oSom, ↓wSlice, ↓wRev, ↓vP, ↓vSh, ↓vFit, ↓vaNil, ↓vaCons, ↓vLst, ↓vTup, ↓vTup0, ↓vList, ↓vRep, ↓vSlice, ↓cSl, ↓vCallN, ↓v1, ↓vCa, ↓vIx, ↓tP, ↓vAnd, ↓vOr, ↓vNot, ↓vIf, ↓vT, ↓v2, ↓vLc, ↓gI2, ↓gI2c, ↓gLen, ↓gII, ↓gI, ↓gInt1, ↓gRep, ↓gCat, ↓gKids, ↓gIn, ↓iLst, ↓TL.iTup, ↓TL.iRng1, ↓TL.iRng2, ↓iEn, ↓iZp, ↓hName, ↓hCons, ↓hNil, ↓hTup, ↓wSl, ↓wIsi, ↓wYes, rho0, iniE, entOf, allSh, List.replicate, List.length_cons, List.length_nil, Nat.reduceAdd, Nat.reduceSub, Nat.reduceLT, Nat.reduceLeDiff, List.cons_append, List.nil_append, List.getElem?_cons_zero, List.getElem?_cons_succ, Option.bind_some, Ent.tr, Ent.own, Ent.put, setE, killA, noAl_ow, noAl_io1, noAl_no, noAl_ro, noAl_al', killJ_cons, killJ_nil0, noRo_ow, noRo_io, noRo_no, noRo_al, mem1, notIn, noRA_ow, noRA_io, noRA_no, noRA_al, Plc, demE, List.foldl_cons, List.foldl_nil, List.map_cons, List.map_nil, List.set_cons_zero, List.set_cons_succ, endsOf, ↓outsOf, Option.map_some, plSet, TL.putAt, T.put, true_and, and_true, lst_set, lst_snoc, lm_set, lm_snoc, shOnly, shE_ow0, shE_ow1, shE_io, shE_no, Option.isSome_some, reduceIte, if_true, if_false, Bool.false_eq_true, Nat.reduceEqDiff]
    refine ⟨by omega, by omega, fun i ρ => ∃ m a c x4 x5 x6 x7 x8, ρ = [Ent.io 1 (Li [a, b, c]), Ent.ow 0 (T.int n), Ent.ow 0 (T.int mode), Ent.ow 2 (Lm m), x4, x5, x6, x7, x8] ∧ Okr m n,
      ⟨as, a1, c1, _, _, _, _, _, rfl, hok⟩, fun i t ρ hi hI => ?_, fun ρ hI => ?_⟩
    · obtain ⟨m, a2, c2, x4, x5, x6, x7, x8, rfl, hm⟩ := hI
      obtain ⟨hlt, rfl⟩ := rgT_get.mp hi
      rw [Int.zero_add]
      rw [Int.toNat_natCast] at hlt
      simp -dsimp only [↓uSeq, ↓uNext, ↓uFor, ↓uSt, ↓uStV, ↓uAu, ↓uAp, ↓uApMv, ↓uAuN, ↓uAlias, ↓uDem, ↓uBrk, ↓uCnt, ↓uNev, ↓uRet, ↓uRetN, ↓uExp, ↓uExpP, ↓uSet, ↓uSetR, ↓uIf, ↓wVar, ↓wVarV, ↓wC, ↓w1, ↓w2, ↓wT, asB, ↓wChain, ↓wNil, ↓wCons, ↓wAnd, ↓wOr, ↓wNot, ↓wAndV, ↓wOrV, ↓wNotV, ↓wIf, ↓wCallP, ↓wCallV, ↓wCa, ↓wTup, ↓wLst, ↓oNon, ↓oSom, ↓wSlice, ↓wRev, ↓vP, ↓vSh, ↓vFit, ↓vaNil, ↓vaCons, ↓vLst, ↓vTup, ↓vTup0, ↓vList, ↓vRep, ↓vSlice, ↓cSl, ↓vCallN, ↓v1, ↓vCa, ↓vIx, ↓tP, ↓vAnd, ↓vOr, ↓vNot, ↓vIf, ↓vT, ↓v2, ↓vLc, ↓gI2, ↓gI2c, ↓gLen, ↓gII, ↓gI, ↓gInt1, ↓gRep, ↓gCat, ↓gKids, ↓gIn, ↓iLst, ↓TL.iTup, ↓TL.iRng1, ↓TL.iRng2, ↓iEn, ↓iZp, ↓hName, ↓hCons, ↓hNil, ↓hTup, ↓wSl, ↓wIsi, ↓wYes, rho0, iniE, entOf, allSh, List.replicate, List.length_cons, List.length_nil, Nat.reduceAdd, Nat.reduceSub, Nat.reduceLT, Nat.reduceLeDiff, List.cons_append, List.nil_append, List.getElem?_cons_zero, List.getElem?_cons_succ, Option.bind_some, Ent.tr, Ent.own, Ent.put, setE, killA, noAl_ow, noAl_io1, noAl_no, noAl_ro, noAl_al', killJ_cons, killJ_nil0, noRo_ow, noRo_io, noRo_no, noRo_al, mem1, notIn, noRA_ow, noRA_io, noRA_no, noRA_al, Plc, demE, List.foldl_cons, List.foldl_nil, List.map_cons, List.map_nil, List.set_cons_zero, List.set_cons_succ, endsOf, ↓outsOf, Option.map_some, plSet, TL.putAt, T.put, true_and, and_true, lst_set, lst_snoc, lm_set, lm_snoc, shOnly, shE_ow0, shE_ow1, shE_io, shE_no, Option.isSome_some, reduceIte, if_true, if_false, Bool.false_eq_true, Nat.reduceEqDiff]
      refine ⟨by omega, by omega, fun j ρ => ∃ m a c x5 x6 x7 x8, ρ = [Ent.io 1 (Li [a, b, c]), Ent.ow 0 (T.int n), Ent.ow 0 (T.int mode), Ent.ow 2 (Lm m), Ent.ow 0 (T.int i), x5, x6, x7, x8] ∧ Okr m n,
        ⟨m, a2, c2, _, _, _, _, rfl, hm⟩, fun j t ρ hj hJ => ?_, fun ρ hJ => ?_⟩
      · obtain ⟨m, a3, c3, x5, x6, x7, x8, rfl, hm⟩ := hJ
        obtain ⟨hjt, rfl⟩ := rgT_get.mp hj
        rw [Int.zero_add]
        rw [Int.toNat_natCast] at hjt
        obtain ⟨r, hr1, hr2, hq, ho⟩ := hm.get hlt
        simp -dsimp only [↓uSeq, ↓uNext, ↓uFor, ↓uSt, ↓uStV, ↓uAu, ↓uAp, ↓uApMv, ↓uAuN, ↓uAlias, ↓uDem, ↓uBrk, ↓uCnt, ↓uNev, ↓uRet, ↓uRetN, ↓uExp, ↓uExpP, ↓uSet, ↓uSetR, ↓uIf, ↓wVar, ↓wVarV, ↓wC, ↓w1, ↓w2, ↓wT, asB, ↓wChain, ↓wNil, ↓wCons, ↓wAnd, ↓wOr, ↓wNot, ↓wAndV, ↓wOrV, ↓wNotV, ↓wIf, ↓wCallP, ↓wCallV, ↓wCa, ↓wTup, ↓wLst, ↓oNon, ↓oSom, ↓wSlice, ↓wRev, ↓vP, ↓vSh, ↓vFit, ↓vaNil, ↓vaCons, ↓vLst, ↓vTup, ↓vTup0, ↓vList, ↓vRep, ↓vSlice, ↓cSl, ↓vCallN, ↓v1, ↓vCa, ↓vIx, ↓tP, ↓vAnd, ↓vOr, ↓vNot, ↓vIf, ↓vT, ↓v2, ↓vLc, ↓gI2, ↓gI2c, ↓gLen, ↓gII, ↓gI, ↓gInt1, ↓gRep, ↓gCat, ↓gKids, ↓gIn, ↓iLst, ↓TL.iTup, ↓TL.iRng1, ↓TL.iRng2, ↓iEn, ↓iZp, ↓hName, ↓hCons, ↓hNil, ↓hTup, ↓wSl, ↓wIsi, ↓wYes, rho0, iniE, entOf, allSh, List.replicate, List.length_cons, List.length_nil, Nat.reduceAdd, Nat.reduceSub, Nat.reduceLT, Nat.reduceLeDiff, List.cons_append, List.nil_append, List.getElem?_cons_zero, List.getElem?_cons_succ, Option.bind_some, Ent.tr, Ent.own, Ent.put, setE, killA, noAl_ow, noAl_io1, noAl_no, noAl_ro, noAl_al', killJ_cons, killJ_nil0, noRo_ow, noRo_io, noRo_no, noRo_al, mem1, notIn, noRA_ow, noRA_io, noRA_no, noRA_al, Plc, demE, List.foldl_cons, List.foldl_nil, List.map_cons, List.map_nil, List.set_cons_zero, List.set_cons_succ, endsOf, ↓outsOf, Option.map_some, plSet, TL.putAt, T.put, true_and, and_true, lst_set, lst_snoc, lm_set, lm_snoc, shOnly, shE_ow0, shE_ow1, shE_io, shE_no, Option.isSome_some, reduceIte, if_true, if_false, Bool.false_eq_true, Nat.reduceEqDiff]
        refine ifS (fun hne => ifS (fun _ => ⟨rfl, fit0, callDraw_io (by decide) (by decide) fun v a4 c4 _ _ => ?_⟩) (fun _ => ⟨rfl, fit0, callDraw_io (by decide) (by decide) fun v a4 c4 _ _ => ?_⟩)) (fun _ => ⟨m, a3, c3, _, _, _, _, rfl, hm⟩)
        all_goals simp -dsimp only [hq, ho, ↓uSeq, ↓uNext, ↓uFor, ↓uSt, ↓uStV, ↓uAu, ↓uAp, ↓uApMv, ↓uAuN, ↓uAlias, ↓uDem, ↓uBrk, ↓uCnt, ↓uNev, ↓uRet, ↓uRetN, ↓uExp, ↓uExpP, ↓uSet, ↓uSetR, ↓uIf, ↓wVar, ↓wVarV, ↓wC, ↓w1, ↓w2, ↓wT, asB, ↓wChain, ↓wNil, ↓wCons, ↓wAnd, ↓wOr, ↓wNot, ↓wAndV, ↓wOrV, ↓wNotV, ↓wIf, ↓wCallP, ↓wCallV, ↓wCa, ↓wTup, ↓wLst, ↓oNon, ↓oSom, ↓wSlice, ↓wRev, ↓vP, ↓vSh, ↓vFit, ↓vaNil, ↓vaCons, ↓vLst, ↓vTup, ↓vTup0, ↓vList, ↓vRep, ↓vSlice, ↓cSl, ↓vCallN, ↓v1, ↓vCa, ↓vIx, ↓tP, ↓vAnd, ↓vOr, ↓vNot, ↓vIf, ↓vT, ↓v2, ↓vLc, ↓gI2, ↓gI2c, ↓gLen, ↓gII, ↓gI, ↓gInt1, ↓gRep, ↓gCat, ↓gKids, ↓gIn, ↓iLst, ↓TL.iTup, ↓TL.iRng1, ↓TL.iRng2, ↓iEn, ↓iZp, ↓hName, ↓hCons, ↓hNil, ↓hTup, ↓wSl, ↓wIsi, ↓wYes, rho0, iniE, entOf, allSh, List.replicate, List.length_cons, List.length_nil, Nat.reduceAdd, Nat.reduceSub, Nat.reduceLT, Nat.reduceLeDiff, List.cons_append, List.nil_append, List.getElem?_cons_zero, List.getElem?_cons_succ, Option.bind_some, Ent.tr, Ent.own, Ent.put, setE, killA, noAl_ow, noAl_io1, noAl_no, noAl_ro, noAl_al', killJ_cons, killJ_nil0, noRo_ow, noRo_io, noRo_no, noRo_al, mem1, notIn, noRA_ow, noRA_io, noRA_no, noRA_al, Plc, demE, List.foldl_cons, List.foldl_nil, List.map_cons, List.map_nil, List.set_cons_zero, List.set_cons_succ, endsOf, ↓outsOf, Option.map_some, plSet, TL.putAt, T.put, true_and, and_true, lst_set, lst_snoc, lm_set, lm_snoc, shOnly, shE_ow0, shE_ow1, shE_io, shE_no, Option.isSome_some, reduceIte, if_true, if_false, Bool.false_eq_true, Nat.reduceEqDiff]
        all_goals refine ⟨rfl, rfl, ifS (fun _ => ?_) (fun _ => ⟨m, a4, c4, _, _, _, _, rfl, hm⟩)⟩
        all_goals refine ⟨by decide, rfl, fit0, rfl, fit0, rfl, fit0, rfl, fit0, callDraw_io (by decide) (by decide) fun d2 a5 c5 hv0 hv1 => ?_⟩
        all_goals simp -dsimp only [↓uSeq, ↓uNext, ↓uFor, ↓uSt, ↓uStV, ↓uAu, ↓uAp, ↓uApMv, ↓uAuN, ↓uAlias, ↓uDem, ↓uBrk, ↓uCnt, ↓uNev, ↓uRet, ↓uRetN, ↓uExp, ↓uExpP, ↓uSet, ↓uSetR, ↓uIf, ↓wVar, ↓wVarV, ↓wC, ↓w1, ↓w2, ↓wT, asB, ↓wChain, ↓wNil, ↓wCons, ↓wAnd, ↓wOr, ↓wNot, ↓wAndV, ↓wOrV, ↓wNotV, ↓wIf, ↓wCallP, ↓wCallV, ↓wCa, ↓wTup, ↓wLst, ↓oNon, ↓oSom, ↓wSlice, ↓wRev, ↓vP, ↓vSh, ↓vFit, ↓vaNil, ↓vaCons, ↓vLst, ↓vTup, ↓vTup0, ↓vList, ↓vRep, ↓vSlice, ↓cSl, ↓vCallN, ↓v1, ↓vCa, ↓vIx, ↓tP, ↓vAnd, ↓vOr, ↓vNot, ↓vIf, ↓vT, ↓v2, ↓vLc, ↓gI2, ↓gI2c, ↓gLen, ↓gII, ↓gI, ↓gInt1, ↓gRep, ↓gCat, ↓gKids, ↓gIn, ↓iLst, ↓TL.iTup, ↓TL.iRng1, ↓TL.iRng2, ↓iEn, ↓iZp, ↓hName, ↓hCons, ↓hNil, ↓hTup, ↓wSl, ↓wIsi, ↓wYes, rho0, iniE, entOf, allSh, List.replicate, List.length_cons, List.length_nil, Nat.reduceAdd, Nat.reduceSub, Nat.reduceLT, Nat.reduceLeDiff, List.cons_append, List.nil_append, List.getElem?_cons_zero, List.getElem?_cons_succ, Option.bind_some, Ent.tr, Ent.own, Ent.put, setE, killA, noAl_ow, noAl_io1, noAl_no, noAl_ro, noAl_al', killJ_cons, killJ_nil0, noRo_ow, noRo_io, noRo_no, noRo_al, mem1, notIn, noRA_ow, noRA_io, noRA_no, noRA_al, Plc, demE, List.foldl_cons, List.foldl_nil, List.map_cons, List.map_nil, List.set_cons_zero, List.set_cons_succ, endsOf, ↓outsOf, Option.map_some, plSet, TL.putAt, T.put, true_and, and_true, lst_set, lst_snoc, lm_set, lm_snoc, shOnly, shE_ow0, shE_ow1, shE_io, shE_no, Option.isSome_some, reduceIte, if_true, if_false, Bool.false_eq_true, Nat.reduceEqDiff]
        all_goals refine ⟨fit0, fit0, callPick_io (xs := [40, 1, 2, d2]) (by simp) (by simp) fun d3 hv3 a6 c6 => ?_⟩
        all_goals have hb := pick40 hv3 hv0 hv1
        all_goals have hj2 : ixN (List.map T.int r).length (j : Int) = some j := ixN_nat (by rw [List.length_map, hr2]; exact hjt)
        all_goals simp -dsimp only [hj2, ↓uSeq, ↓uNext, ↓uFor, ↓uSt, ↓uStV, ↓uAu, ↓uAp, ↓uApMv, ↓uAuN, ↓uAlias, ↓uDem, ↓uBrk, ↓uCnt, ↓uNev, ↓uRet, ↓uRetN, ↓uExp, ↓uExpP, ↓uSet, ↓uSetR, ↓uIf, ↓wVar, ↓wVarV, ↓wC, ↓w1, ↓w2, ↓wT, asB, ↓wChain, ↓wNil, ↓wCons, ↓wAnd, ↓wOr, ↓wNot, ↓wAndV, ↓wOrV, ↓wNotV, ↓wIf, ↓wCallP, ↓wCallV, ↓wCa, ↓wTup, ↓wLst, ↓oNon, ↓oSom, ↓wSlice, ↓wRev, ↓vP, ↓vSh, ↓vFit, ↓vaNil, ↓vaCons, ↓vLst, ↓vTup, ↓vTup0, ↓vList, ↓vRep, ↓vSlice, ↓cSl, ↓vCallN, ↓v1, ↓vCa, ↓vIx, ↓tP, ↓vAnd, ↓vOr, ↓vNot, ↓vIf, ↓vT, ↓v2, ↓vLc, ↓gI2, ↓gI2c, ↓gLen, ↓gII, ↓gI, ↓gInt1, ↓gRep, ↓gCat, ↓gKids, ↓gIn, ↓iLst, ↓TL.iTup, ↓TL.iRng1, ↓TL.iRng2, ↓iEn, ↓iZp, ↓hName, ↓hCons, ↓hNil, ↓hTup, ↓wSl, ↓wIsi, ↓wYes, rho0, iniE, entOf, allSh, List.replicate, List.length_cons, List.length_nil, Nat.reduceAdd, Nat.reduceSub, Nat.reduceLT, Nat.reduceLeDiff, List.cons_append, List.nil_append, List.getElem?_cons_zero, List.getElem?_cons_succ, Option.bind_some, Ent.tr, Ent.own, Ent.put, setE, killA, noAl_ow, noAl_io1, noAl_no, noAl_ro, noAl_al', killJ_cons, killJ_nil0, noRo_ow, noRo_io, noRo_no, noRo_al, mem1, notIn, noRA_ow, noRA_io, noRA_no, noRA_al, Plc, demE, List.foldl_cons, List.foldl_nil, List.map_cons, List.map_nil, List.set_cons_zero, List.set_cons_succ, endsOf, ↓outsOf, Option.map_some, plSet, TL.putAt, T.put, true_and, and_true, lst_set, lst_snoc, lm_set, lm_snoc, shOnly, shE_ow0, shE_ow1, shE_io, shE_no, Option.isSome_some, reduceIte, if_true, if_false, Bool.false_eq_true, Nat.reduceEqDiff]
        all_goals have hij : i ≠ j := ij_ne hne
        all_goals exact ⟨fit0, m.set i (r.set j d3), _, _, _, _, _, _, rfl, hm.set hr1 hij hb.1 hb.2⟩
      · obtain ⟨m, a3, c3, x5, x6, x7, x8, rfl, hm⟩ := hJ
        exact ⟨m, a3, c3, _, _, _, _, _, rfl, hm⟩
    · obtain ⟨m, a2, c2, x4, x5, x6, x7, x8, rfl, hm⟩ := hI
      simp -dsimp only [↓uSeq, ↓uNext, ↓uFor, ↓uSt, ↓uStV, ↓uAu, ↓uAp, ↓uApMv, ↓uAuN, ↓uAlias, ↓uDem, ↓uBrk, ↓uCnt, ↓uNev, ↓uRet, ↓uRetN, ↓uExp, ↓uExpP, ↓uSet, ↓uSetR, ↓uIf, ↓wVar, ↓wVarV, ↓wC, ↓w1, ↓w2, ↓wT, asB, ↓wChain, ↓wNil, ↓wCons, ↓wAnd, ↓wOr, ↓wNot, ↓wAndV, ↓wOrV, ↓wNotV, ↓wIf, ↓wCallP, ↓wCallV, ↓wCa, ↓wTup, ↓wLst, ↓oNon, ↓oSom, ↓wSlice, ↓wRev, ↓vP, ↓vSh, ↓vFit, ↓vaNil, ↓vaCons, ↓vLst, ↓vTup, ↓vTup0, ↓vList, ↓vRep, ↓vSlice, ↓cSl, ↓vCallN, ↓v1, ↓vCa, ↓vIx, ↓tP, ↓vAnd, ↓vOr, ↓vNot, ↓vIf, ↓vT, ↓v2, ↓vLc, ↓gI2, ↓gI2c, ↓gLen, ↓gII, ↓gI, ↓gInt1, ↓gRep, ↓gCat, ↓gKids, ↓gIn, ↓iLst, ↓TL.iTup, ↓TL.iRng1, ↓TL.iRng2, ↓iEn, ↓iZp, ↓hName, ↓hCons, ↓hNil, ↓hTup, ↓wSl, ↓wIsi, ↓wYes, rho0, iniE, entOf, allSh, List.replicate, List.length_cons, List.length_nil, Nat.reduceAdd, Nat.reduceSub, Nat.reduceLT, Nat.reduceLeDiff, List.cons_append, List.nil_append, List.getElem?_cons_zero, List.getElem?_cons_succ, Option.bind_some, Ent.tr, Ent.own, Ent.put, setE, killA, noAl_ow, noAl_io1, noAl_no, noAl_ro, noAl_al', killJ_cons, killJ_nil0, noRo_ow, noRo_io, noRo_no, noRo_al, mem1, notIn, noRA_ow, noRA_io, noRA_no, noRA_al, Plc, demE, List.foldl_cons, List.foldl_nil, List.map_cons, List.map_nil, List.set_cons_zero, List.set_cons_succ, endsOf, ↓outsOf, Option.map_some, plSet, TL.putAt, T.put, true_and, and_true, lst_set, lst_snoc, lm_set, lm_snoc, shOnly, shE_ow0, shE_ow1, shE_io, shE_no, Option.isSome_some, reduceIte, if_true, if_false, Bool.false_eq_true, Nat.reduceEqDiff]
      refine ifS (fun _ => ?_) (fun _ => ?_)
      · refine ⟨rfl, fit0, rfl, rfl, fit0, callDraw_io (by decide) (by decide) fun d a3 c3 hv0 hv1 => ?_⟩
        simp -dsimp only [↓uSeq, ↓uNext, ↓uFor, ↓uSt, ↓uStV, ↓uAu, ↓uAp, ↓uApMv, ↓uAuN, ↓uAlias, ↓uDem, ↓uBrk, ↓uCnt, ↓uNev, ↓uRet, ↓uRetN, ↓uExp, ↓uExpP, ↓uSet, ↓uSetR, ↓uIf, ↓wVar, ↓wVarV, ↓wC, ↓w1, ↓w2, ↓wT, asB, ↓wChain, ↓wNil, ↓wCons, ↓wAnd, ↓wOr, ↓wNot, ↓wAndV, ↓wOrV, ↓wNotV, ↓wIf, ↓wCallP, ↓wCallV, ↓wCa, ↓wTup, ↓wLst, ↓oNon, ↓oSom, ↓wSlice, ↓wRev, ↓vP, ↓vSh, ↓vFit, ↓vaNil, ↓vaCons, ↓vLst, ↓vTup, ↓vTup0, ↓vList, ↓vRep, ↓vSlice, ↓cSl, ↓vCallN, ↓v1, ↓vCa, ↓vIx, ↓tP, ↓vAnd, ↓vOr, ↓vNot, ↓vIf, ↓vT, ↓v2, ↓vLc, ↓gI2, ↓gI2c, ↓gLen, ↓gII, ↓gI, ↓gInt1, ↓gRep, ↓gCat, ↓gKids, ↓gIn, ↓iLst, ↓TL.iTup, ↓TL.iRng1, ↓TL.iRng2, ↓iEn, ↓iZp, ↓hName, ↓hCons, ↓hNil, ↓hTup, ↓wSl, ↓wIsi, ↓wYes, rho0, iniE, entOf, allSh, List.replicate, List.length_cons, List.length_nil, Nat.reduceAdd, Nat.reduceSub, Nat.reduceLT, Nat.reduceLeDiff, List.cons_append, List.nil_append, List.getElem?_cons_zero, List.getElem?_cons_succ, Option.bind_some, Ent.tr, Ent.own, Ent.put, setE, killA, noAl_ow, noAl_io1, noAl_no, noAl_ro, noAl_al', killJ_cons, killJ_nil0, noRo_ow, noRo_io, noRo_no, noRo_al, mem1, notIn, noRA_ow, noRA_io, noRA_no, noRA_al, Plc, demE, List.foldl_cons, List.foldl_nil, List.map_cons, List.map_nil, List.set_cons_zero, List.set_cons_succ, endsOf, ↓outsOf, Option.map_some, plSet, TL.putAt, T.put, true_and, and_true, lst_set, lst_snoc, lm_set, lm_snoc, shOnly, shE_ow0, shE_ow1, shE_io, shE_no, Option.isSome_some, reduceIte, if_true, if_false, Bool.false_eq_true, Nat.reduceEqDiff]
        refine ⟨rfl, fit0, fit0, callPick_io (xs := [40, 1 + d]) (by simp) (by simp) fun co hco a4 c4 => ?_⟩
        have hb : 0 ≤ co ∧ co ≤ 40 := by
          simp at hco
          omega
        simp -dsimp only [↓uSeq, ↓uNext, ↓uFor, ↓uSt, ↓uStV, ↓uAu, ↓uAp, ↓uApMv, ↓uAuN, ↓uAlias, ↓uDem, ↓uBrk, ↓uCnt, ↓uNev, ↓uRet, ↓uRetN, ↓uExp, ↓uExpP, ↓uSet, ↓uSetR, ↓uIf, ↓wVar, ↓wVarV, ↓wC, ↓w1, ↓w2, ↓wT, asB, ↓wChain, ↓wNil, ↓wCons, ↓wAnd, ↓wOr, ↓wNot, ↓wAndV, ↓wOrV, ↓wNotV, ↓wIf, ↓wCallP, ↓wCallV, ↓wCa, ↓wTup, ↓wLst, ↓oNon, ↓oSom, ↓wSlice, ↓wRev, ↓vP, ↓vSh, ↓vFit, ↓vaNil, ↓vaCons, ↓vLst, ↓vTup, ↓vTup0, ↓vList, ↓vRep, ↓vSlice, ↓cSl, ↓vCallN, ↓v1, ↓vCa, ↓vIx, ↓tP, ↓vAnd, ↓vOr, ↓vNot, ↓vIf, ↓vT, ↓v2, ↓vLc, ↓gI2, ↓gI2c, ↓gLen, ↓gII, ↓gI, ↓gInt1, ↓gRep, ↓gCat, ↓gKids, ↓gIn, ↓iLst, ↓TL.iTup, ↓TL.iRng1, ↓TL.iRng2, ↓iEn, ↓iZp, ↓hName, ↓hCons, ↓hNil, ↓hTup, ↓wSl, ↓wIsi, ↓wYes, rho0, iniE, entOf, allSh, List.replicate, List.length_cons, List.length_nil, Nat.reduceAdd, Nat.reduceSub, Nat.reduceLT, Nat.reduceLeDiff, List.cons_append, List.nil_append, List.getElem?_cons_zero, List.getElem?_cons_succ, Option.bind_some, Ent.tr, Ent.own, Ent.put, setE, killA, noAl_ow, noAl_io1, noAl_no, noAl_ro, noAl_al', killJ_cons, killJ_nil0, noRo_ow, noRo_io, noRo_no, noRo_al, mem1, notIn, noRA_ow, noRA_io, noRA_no, noRA_al, Plc, demE, List.foldl_cons, List.foldl_nil, List.map_cons, List.map_nil, List.set_cons_zero, List.set_cons_succ, endsOf, ↓outsOf, Option.map_some, plSet, TL.putAt, T.put, true_and, and_true, lst_set, lst_snoc, lm_set, lm_snoc, shOnly, shE_ow0, shE_ow1, shE_io, shE_no, Option.isSome_some, reduceIte, if_true, if_false, Bool.false_eq_true, Nat.reduceEqDiff]
        refine ⟨by omega, by omega, fun i ρ => ∃ m a c x4 x5 x7 x8, ρ = [Ent.io 1 (Li [a, b, c]), Ent.ow 0 (T.int n), Ent.ow 0 (T.int mode), Ent.ow 2 (Lm m), x4, x5, Ent.ow 0 (T.int co), x7, x8] ∧ Okr m n,
          ⟨m, a4, c4, _, _, _, _, rfl, hm⟩, fun i t ρ hi hI => ?_, fun ρ hI => ?_⟩
        · obtain ⟨m, a2, c2, x4, x5, x7, x8, rfl, hm⟩ := hI
          obtain ⟨hlt, rfl⟩ := rgT_get.mp hi
          rw [Int.zero_add]
          rw [Int.toNat_natCast] at hlt
          obtain ⟨r, hr1, hr2, hq, ho⟩ := hm.get hlt
          have hj : ((i : Int) + 1) % n = ((((i : Int) + 1) % n).toNat : Int) := (Int.toNat_of_nonneg (Int.emod_nonneg _ (by omega))).symm
          have hjl : (((i : Int) + 1) % n).toNat < n := by have := Int.emod_lt_of_pos ((i : Int) + 1) (show (0 : Int) < n by omega); omega
          have hij : i ≠ (((i : Int) + 1) % n).toNat := ring_ne (by omega) hlt
          generalize (((i : Int) + 1) % n).toNat = j at hj hjl hij
          have hj2 : ixN (List.map T.int r).length (j : Int) = some j := ixN_nat (by rw [List.length_map, hr2]; exact hjl)
          simp -dsimp only [hq, ho, hj, hj2, ↓uSeq, ↓uNext, ↓uFor, ↓uSt, ↓uStV, ↓uAu, ↓uAp, ↓uApMv, ↓uAuN, ↓uAlias, ↓uDem, ↓uBrk, ↓uCnt, ↓uNev, ↓uRet, ↓uRetN, ↓uExp, ↓uExpP, ↓uSet, ↓uSetR, ↓uIf, ↓wVar, ↓wVarV, ↓wC, ↓w1, ↓w2, ↓wT, asB, ↓wChain, ↓wNil, ↓wCons, ↓wAnd, ↓wOr, ↓wNot, ↓wAndV, ↓wOrV, ↓wNotV, ↓wIf, ↓wCallP, ↓wCallV, ↓wCa, ↓wTup, ↓wLst, ↓oNon, ↓oSom, ↓wSlice, ↓wRev, ↓vP, ↓vSh, ↓vFit, ↓vaNil, ↓vaCons, ↓vLst, ↓vTup, ↓vTup0, ↓vList, ↓vRep, ↓vSlice, ↓cSl, ↓vCallN, ↓v1, ↓vCa, ↓vIx, ↓tP, ↓vAnd, ↓vOr, ↓vNot, ↓vIf, ↓vT, ↓v2, ↓vLc, ↓gI2, ↓gI2c, ↓gLen, ↓gII, ↓gI, ↓gInt1, ↓gRep, ↓gCat, ↓gKids, ↓gIn, ↓iLst, ↓TL.iTup, ↓TL.iRng1, ↓TL.iRng2, ↓iEn, ↓iZp, ↓hName, ↓hCons, ↓hNil, ↓hTup, ↓wSl, ↓wIsi, ↓wYes, rho0, iniE, entOf, allSh, List.replicate, List.length_cons, List.length_nil, Nat.reduceAdd, Nat.reduceSub, Nat.reduceLT, Nat.reduceLeDiff, List.cons_append, List.nil_append, List.getElem?_cons_zero, List.getElem?_cons_succ, Option.bind_some, Ent.tr, Ent.own, Ent.put, setE, killA, noAl_ow, noAl_io1, noAl_no, noAl_ro, noAl_al', killJ_cons, killJ_nil0, noRo_ow, noRo_io, noRo_no, noRo_al, mem1, notIn, noRA_ow, noRA_io, noRA_no, noRA_al, Plc, demE, List.foldl_cons, List.foldl_nil, List.map_cons, List.map_nil, List.set_cons_zero, List.set_cons_succ, endsOf, ↓outsOf, Option.map_some, plSet, TL.putAt, T.put, true_and, and_true, lst_set, lst_snoc, lm_set, lm_snoc, shOnly, shE_ow0, shE_ow1, shE_io, shE_no, Option.isSome_some, reduceIte, if_true, if_false, Bool.false_eq_true, Nat.reduceEqDiff]
          exact ⟨by decide, rfl, by omega, fit0, _, _, _, _, _, _, _, rfl, hm.set hr1 hij hb.1 hb.2⟩
        · obtain ⟨m, a2, c2, x4, x5, x7, x8, rfl, hm⟩ := hI
          simp -dsimp only [↓uSeq, ↓uNext, ↓uFor, ↓uSt, ↓uStV, ↓uAu, ↓uAp, ↓uApMv, ↓uAuN, ↓uAlias, ↓uDem, ↓uBrk, ↓uCnt, ↓uNev, ↓uRet, ↓uRetN, ↓uExp, ↓uExpP, ↓uSet, ↓uSetR, ↓uIf, ↓wVar, ↓wVarV, ↓wC, ↓w1, ↓w2, ↓wT, asB, ↓wChain, ↓wNil, ↓wCons, ↓wAnd, ↓wOr, ↓wNot, ↓wAndV, ↓wOrV, ↓wNotV, ↓wIf, ↓wCallP, ↓wCallV, ↓wCa, ↓wTup, ↓wLst, ↓oNon, ↓oSom, ↓wSlice, ↓wRev, ↓vP, ↓vSh, ↓vFit, ↓vaNil, ↓vaCons, ↓vLst, ↓vTup, ↓vTup0, ↓vList, ↓vRep, ↓vSlice, ↓cSl, ↓vCallN, ↓v1, ↓vCa, ↓vIx, ↓tP, ↓vAnd, ↓vOr, ↓vNot, ↓vIf, ↓vT, ↓v2, ↓vLc, ↓gI2, ↓gI2c, ↓gLen, ↓gII, ↓gI, ↓gInt1, ↓gRep, ↓gCat, ↓gKids, ↓gIn, ↓iLst, ↓TL.iTup, ↓TL.iRng1, ↓TL.iRng2, ↓iEn, ↓iZp, ↓hName, ↓hCons, ↓hNil, ↓hTup, ↓wSl, ↓wIsi, ↓wYes, rho0, iniE, entOf, allSh, List.replicate, List.length_cons, List.length_nil, Nat.reduceAdd, Nat.reduceSub, Nat.reduceLT, Nat.reduceLeDiff, List.cons_append, List.nil_append, List.getElem?_cons_zero, List.getElem?_cons_succ, Option.bind_some, Ent.tr, Ent.own, Ent.put, setE, killA, noAl_ow, noAl_io1, noAl_no, noAl_ro, noAl_al', killJ_cons, killJ_nil0, noRo_ow, noRo_io, noRo_no, noRo_al, mem1, notIn, noRA_ow, noRA_io, noRA_no, noRA_al, Plc, demE, List.foldl_cons, List.foldl_nil, List.map_cons, List.map_nil, List.set_cons_zero, List.set_cons_succ, endsOf, ↓outsOf, Option.map_some, plSet, TL.putAt, T.put, true_and, and_true, lst_set, lst_snoc, lm_set, lm_snoc, shOnly, shE_ow0, shE_ow1, shE_io, shE_no, Option.isSome_some, reduceIte, if_true, if_false, Bool.false_eq_true, Nat.reduceEqDiff]
          refine ifS (fun _ => ?_) (fun _ => h m _ _ hm)
          refine ⟨by omega, by omega, by omega, by rw [repZ]; exact flats_ints _, rfl, fit0, callDraw_io (by omega) (by omega) fun v a3 c3 hv0 hv1 => ?_⟩
          obtain ⟨j, rfl⟩ := Int.eq_ofNat_of_zero_le hv0
          obtain ⟨r, hr1, hr2, hq, ho⟩ := hm.get (i := j) (by omega)
          rw [repZ]
          simp -dsimp only [hq, ↓uSeq, ↓uNext, ↓uFor, ↓uSt, ↓uStV, ↓uAu, ↓uAp, ↓uApMv, ↓uAuN, ↓uAlias, ↓uDem, ↓uBrk, ↓uCnt, ↓uNev, ↓uRet, ↓uRetN, ↓uExp, ↓uExpP, ↓uSet, ↓uSetR, ↓uIf, ↓wVar, ↓wVarV, ↓wC, ↓w1, ↓w2, ↓wT, asB, ↓wChain, ↓wNil, ↓wCons, ↓wAnd, ↓wOr, ↓wNot, ↓wAndV, ↓wOrV, ↓wNotV, ↓wIf, ↓wCallP, ↓wCallV, ↓wCa, ↓wTup, ↓wLst, ↓oNon, ↓oSom, ↓wSlice, ↓wRev, ↓vP, ↓vSh, ↓vFit, ↓vaNil, ↓vaCons, ↓vLst, ↓vTup, ↓vTup0, ↓vList, ↓vRep, ↓vSlice, ↓cSl, ↓vCallN, ↓v1, ↓vCa, ↓vIx, ↓tP, ↓vAnd, ↓vOr, ↓vNot, ↓vIf, ↓vT, ↓v2, ↓vLc, ↓gI2, ↓gI2c, ↓gLen, ↓gII, ↓gI, ↓gInt1, ↓gRep, ↓gCat, ↓gKids, ↓gIn, ↓iLst, ↓TL.iTup, ↓TL.iRng1, ↓TL.iRng2, ↓iEn, ↓iZp, ↓hName, ↓hCons, ↓hNil, ↓hTup, ↓wSl, ↓wIsi, ↓wYes, rho0, iniE, entOf, allSh, List.replicate, List.length_cons, List.length_nil, Nat.reduceAdd, Nat.reduceSub, Nat.reduceLT, Nat.reduceLeDiff, List.cons_append, List.nil_append, List.getElem?_cons_zero, List.getElem?_cons_succ, Option.bind_some, Ent.tr, Ent.own, Ent.put, setE, killA, noAl_ow, noAl_io1, noAl_no, noAl_ro, noAl_al', killJ_cons, killJ_nil0, noRo_ow, noRo_io, noRo_no, noRo_al, mem1, notIn, noRA_ow, noRA_io, noRA_no, noRA_al, Plc, demE, List.foldl_cons, List.foldl_nil, List.map_cons, List.map_nil, List.set_cons_zero, List.set_cons_succ, endsOf, ↓outsOf, Option.map_some, plSet, TL.putAt, T.put, true_and, and_true, lst_set, lst_snoc, lm_set, lm_snoc, shOnly, shE_ow0, shE_ow1, shE_io, shE_no, Option.isSome_some, reduceIte, if_true, if_false, Bool.false_eq_true, Nat.reduceEqDiff]
          exact ⟨.inl (Nat.le_refl _), h _ _ _ hm.setRow⟩
      · refine ifS (fun _ => ?_) (fun _ => h m _ _ hm)
        refine ⟨by omega, by omega, by omega, by rw [repZ]; exact flats_ints _, rfl, fit0, callDraw_io (by omega) (by omega) fun v a3 c3 hv0 hv1 => ?_⟩
        obtain ⟨j, rfl⟩ := Int.eq_ofNat_of_zero_le hv0
        obtain ⟨r, hr1, hr2, hq, ho⟩ := hm.get (i := j) (by omega)
        rw [repZ]
        simp -dsimp only [hq, ↓uSeq, ↓uNext, ↓uFor, ↓uSt, ↓uStV, ↓uAu, ↓uAp, ↓uApMv, ↓uAuN, ↓uAlias, ↓uDem, ↓uBrk, ↓uCnt, ↓uNev, ↓uRet, ↓uRetN, ↓uExp, ↓uExpP, ↓uSet, ↓uSetR, ↓uIf, ↓wVar, ↓wVarV, ↓wC, ↓w1, ↓w2, ↓wT, asB, ↓wChain, ↓wNil, ↓wCons, ↓wAnd, ↓wOr, ↓wNot, ↓wAndV, ↓wOrV, ↓wNotV, ↓wIf, ↓wCallP, ↓wCallV, ↓wCa, ↓wTup, ↓wLst, ↓oNon, ↓oSom, ↓wSlice, ↓wRev, ↓vP, ↓vSh, ↓vFit, ↓vaNil, ↓vaCons, ↓vLst, ↓vTup, ↓vTup0, ↓vList, ↓vRep, ↓vSlice, ↓cSl, ↓vCallN, ↓v1, ↓vCa, ↓vIx, ↓tP, ↓vAnd, ↓vOr, ↓vNot, ↓vIf, ↓vT, ↓v2, ↓vLc, ↓gI2, ↓gI2c, ↓gLen, ↓gII, ↓gI, ↓gInt1, ↓gRep, ↓gCat, ↓gKids, ↓gIn, ↓iLst, ↓TL.iTup, ↓TL.iRng1, ↓TL.iRng2, ↓iEn, ↓iZp, ↓hName, ↓hCons, ↓hNil, ↓hTup, ↓wSl, ↓wIsi, ↓wYes, rho0, iniE, entOf, allSh, List.replicate, List.length_cons, List.length_nil, Nat.reduceAdd, Nat.reduceSub, Nat.reduceLT, Nat.reduceLeDiff, List.cons_append, List.nil_append, List.getElem?_cons_zero, List.getElem?_cons_succ, Option.bind_some, Ent.tr, Ent.own, Ent.put, setE, killA, noAl_ow, noAl_io1, noAl_no, noAl_ro, noAl_al', killJ_cons, killJ_nil0, noRo_ow, noRo_io, noRo_no, noRo_al, mem1, notIn, noRA_ow, noRA_io, noRA_no, noRA_al, Plc, demE, List.foldl_cons, List.foldl_nil, List.map_cons, List.map_nil, List.set_cons_zero, List.set_cons_succ, endsOf, ↓outsOf, Option.map_some, plSet, TL.putAt, T.put, true_and, and_true, lst_set, lst_snoc, lm_set, lm_snoc, shOnly, shE_ow0, shE_ow1, shE_io, shE_no, Option.isSome_some, reduceIte, if_true, if_false, Bool.false_eq_true, Nat.reduceEqDiff]
        exact ⟨.inl (Nat.le_refl _), h _ _ _ hm.setRow⟩
def W__law_owns : FnT := fun ts R => ∃ (a b c : Int) (n : Nat), ts = [Li [a, b, c], .int n] ∧ 2 ≤ n ∧ n ≤ 6 ∧ ∀ (xs : List Int) a' c', xs.length = n → (∀ x ∈ xs, 0 ≤ x ∧ x ≤ 1000) → R 1 (Li xs) [Li [a', b, c']]
theorem ok__law_owns {k : Nat} (G : Gs K mg) : FnOk P w K mg base CX0 (k + 4) G.g__law_owns.f G.g__law_owns.d ["pool", "size"] (spT K [.io 1, .sh] W__law_owns) := by
  refine fnT (k := k + 3) G.g__law_owns.F sc__law_owns rfl (fun X cdv A outer s H E hX hr => ?_)
  subst hX
  refine ⟨_, (ts_cons (ts_if (tvt_cmp op_eq opT_eqS (tv_call (ok__law_draw (k := k + 1) G) hr (by rfl) G.g__law_draw.g G.g__law_draw.F.kp G.g__law_draw.b (tca_sl 0 (tca_tv 0 (tv_p tp_int) tca_nil))) (tv_p tp_int) (nomark _)) (ts_one (ts_ret (tv_rep (tp_lst (tpa_cons tp_int tpa_nil)) (tp_var 1)))) ts_nil)
      (ts_one (ts_ret (tv_lc (own := [("k", 2)]) 0 [2] rfl sc__law_owns.nd (ti_rng1 (by rfl) G.z_range (tp_var 1)) (blkOk_by (N := ["pool", "size", "k"]) (sc := defScope s__law_owns) (by decide +kernel)) (fun _ _ _ _ _ => (tg_name 2 sc__law_owns.nd rfl (.inl rfl))) (fun _ _ _ _ _ => tvts_nil) (fun _ _ _ _ _ => (tv_call (ok__law_pick (k := k + 0) G) hr (by rfl) G.g__law_pick.g G.g__law_pick.F.kp G.g__law_pick.b (tca_sl 0 (tca_tv 0 (tv_lst 0 (tva_cons 0 (tv_p tp_int) (tva_cons 0 (tv_p tp_int) (tva_cons 0 (tv_p tp_int) (tva_cons 0 (tv_call (ok__law_draw (k := k + 1) G) hr (by rfl) G.g__law_draw.g G.g__law_draw.F.kp G.g__law_draw.b (tca_sl 0 (tca_tv 0 (tv_p tp_int) tca_nil))) (tva_cons 0 (tv_call (ok__law_draw (k := k + 1) G) hr (by rfl) G.g__law_draw.g G.g__law_draw.F.kp G.g__law_draw.b (tca_sl 0 (tca_tv 0 (tv_p tp_int) tca_nil))) (tva_cons 0 (tv_p tp_int) tva_nil)))))) (by simp) (by decide)) tca_nil)))) (by decide))))), fun ts R hW hlen => ?_⟩

  obtain ⟨a, b, c, n, rfl, h0, h1, h⟩ := hW
  simp -dsimp only [↓uSeq, ↓uNext, ↓uFor, ↓uSt, ↓uStV, ↓uAu, ↓uAp, ↓uApMv, ↓uAuN, ↓uAlias, ↓uDem, ↓uBrk, ↓uCnt, ↓uNev, ↓uRet, ↓uRetN, ↓uExp, ↓uExpP, ↓uSet, ↓uSetR, ↓uIf, ↓wVar, ↓wVarV, ↓wC, ↓w1, ↓w2, ↓wT, asB, ↓wChain, ↓wNil, ↓wCons, ↓wAnd, ↓wOr, ↓wNot, ↓wAndV, ↓wOrV, ↓wNotV, ↓wIf, ↓wCallP, ↓wCallV, ↓wCa, ↓wTup, ↓wLst, ↓oNon, ↓oSom, ↓wSlice, ↓wRev, ↓vP, ↓vSh, ↓vFit, ↓vaNil, ↓vaCons, ↓vLst, ↓vTup, ↓vTup0, ↓vList, ↓vRep, ↓vSlice, ↓cSl, ↓vCallN, ↓v1, ↓vCa, ↓vIx, ↓tP, ↓vAnd, ↓vOr, ↓vNot, ↓vIf, ↓vT, ↓v2, ↓vLc, ↓gI2, ↓gI2c, ↓gLen, ↓gII, ↓gI, ↓gInt1, ↓gRep, ↓gCat, ↓gKids, ↓gIn, ↓iLst, ↓TL.iTup, ↓TL.iRng1, ↓TL.iRng2, ↓iEn, ↓iZp, ↓hName, ↓hCons, ↓hNil, ↓hTup, ↓wSl, ↓wIsi, ↓wYes, rho0, iniE, entOf, allSh, List.replicate, List.length_cons, List.length_nil, Nat.reduceAdd, Nat.reduceSub, Nat.reduceLT, Nat.reduceLeDiff, List.cons_append, List.nil_append, List.getElem?_cons_zero, List.getElem?_cons_succ, Option.bind_some, Ent.tr, Ent.own, Ent.put, setE, killA, noAl_ow, noAl_io1, noAl_no, noAl_ro, noAl_al', killJ_cons, killJ_nil0, noRo_ow, noRo_io, noRo_no, noRo_al, mem1, notIn, noRA_ow, noRA_io, noRA_no, noRA_al, Plc, demE, List.foldl_cons, List.foldl_nil, List.map_cons, List.map_nil, List.set_cons_zero, List.set_cons_succ, endsOf, ↓outsOf, Option.map_some, plSet, TL.putAt, T.put, true_and, and_true, lst_set, lst_snoc, lm_set, lm_snoc, shOnly, shE_ow0, shE_ow1, shE_io, shE_no, Option.isSome_some, reduceIte, if_true, if_false, Bool.false_eq_true, Nat.reduceEqDiff]
  refine ⟨rfl, fit0, callDraw_io (by decide) (by decide) fun v a1 c1 _ _ => ?_⟩
  simp -dsimp only [↓uSeq, ↓uNext, ↓uFor, ↓uSt, ↓uStV, ↓uAu, ↓uAp, ↓uApMv, ↓uAuN, ↓uAlias, ↓uDem, ↓uBrk, ↓uCnt, ↓uNev, ↓uRet, ↓uRetN, ↓uExp, ↓uExpP, ↓uSet, ↓uSetR, ↓uIf, ↓wVar, ↓wVarV, ↓wC, ↓w1, ↓w2, ↓wT, asB, ↓wChain, ↓wNil, ↓wCons, ↓wAnd, ↓wOr, ↓wNot, ↓wAndV, ↓wOrV, ↓wNotV, ↓wIf, ↓wCallP, ↓wCallV, ↓wCa, ↓wTup, ↓wLst, ↓oNon, ↓oSom, ↓wSlice, ↓wRev, ↓vP, ↓vSh, ↓vFit, ↓vaNil, ↓vaCons, ↓vLst, ↓vTup, ↓vTup0, ↓vList, ↓vRep, ↓vSlice, ↓cSl, ↓vCallN, ↓v1, ↓vCa, ↓vIx, ↓tP, ↓vAnd, ↓vOr, ↓vNot, ↓vIf, ↓vT, ↓v2, ↓vLc, ↓gI2, ↓gI2c, ↓gLen, ↓gII, ↓gI, ↓gInt1, ↓gRep, ↓gCat, ↓gKids, ↓gIn, ↓iLst, ↓TL.iTup, ↓TL.iRng1, ↓TL.iRng2, ↓iEn, ↓iZp, ↓hName, ↓hCons, ↓hNil, ↓hTup, ↓wSl, ↓wIsi, ↓wYes, rho0, iniE, entOf, allSh, List.replicate, List.length_cons, List.length_nil, Nat.reduceAdd, Nat.reduceSub, Nat.reduceLT, Nat.reduceLeDiff, List.cons_append, List.nil_append, List.getElem?_cons_zero, List.getElem?_cons_succ, Option.bind_some, Ent.tr, Ent.own, Ent.put, setE, killA, noAl_ow, noAl_io1, noAl_no, noAl_ro, noAl_al', killJ_cons, killJ_nil0, noRo_ow, noRo_io, noRo_no, noRo_al, mem1, notIn, noRA_ow, noRA_io, noRA_no, noRA_al, Plc, demE, List.foldl_cons, List.foldl_nil, List.map_cons, List.map_nil, List.set_cons_zero, List.set_cons_succ, endsOf, ↓outsOf, Option.map_some, plSet, TL.putAt, T.put, true_and, and_true, lst_set, lst_snoc, lm_set, lm_snoc, shOnly, shE_ow0, shE_ow1, shE_io, shE_no, Option.isSome_some, reduceIte, if_true, if_false, Bool.false_eq_true, Nat.reduceEqDiff]
  refine ⟨rfl, rfl, ifS (fun _ => ?_) (fun _ => ?_)⟩
  · rw [repZ]
    exact ⟨by omega, by omega, by omega, flats_ints _, h _ _ _ List.length_replicate fun x hx => by rw [List.eq_of_mem_replicate hx]; omega⟩
  · refine ⟨by omega, by omega, fun i acc ρ => ∃ as a c, acc = List.map T.int as ∧ as.length = i ∧ (∀ x ∈ as, 0 ≤ x ∧ x ≤ 1000) ∧ ρ = [Ent.io 1 (Li [a, b, c]), Ent.ow 0 (T.int n), Ent.no], ⟨[], _, _, rfl, rfl, fun x hx => (nomatch hx), rfl⟩, fun i t acc ρ hi hI => ?_, fun acc ρ hI => ?_⟩
    · obtain ⟨as, a2, c2, rfl, hl, ha, rfl⟩ := hI
      obtain ⟨hlt, rfl⟩ := rgT_get.mp hi
      rw [Int.toNat_natCast] at hlt
      simp -dsimp only [↓uSeq, ↓uNext, ↓uFor, ↓uSt, ↓uStV, ↓uAu, ↓uAp, ↓uApMv, ↓uAuN, ↓uAlias, ↓uDem, ↓uBrk, ↓uCnt, ↓uNev, ↓uRet, ↓uRetN, ↓uExp, ↓uExpP, ↓uSet, ↓uSetR, ↓uIf, ↓wVar, ↓wVarV, ↓wC, ↓w1, ↓w2, ↓wT, asB, ↓wChain, ↓wNil, ↓wCons, ↓wAnd, ↓wOr, ↓wNot, ↓wAndV, ↓wOrV, ↓wNotV, ↓wIf, ↓wCallP, ↓wCallV, ↓wCa, ↓wTup, ↓wLst, ↓oNon, ↓oSom, ↓wSlice, ↓wRev, ↓vP, ↓vSh, ↓vFit, ↓vaNil, ↓vaCons, ↓vLst, ↓vTup, ↓vTup0, ↓vList, ↓vRep, ↓vSlice, ↓cSl, ↓vCallN, ↓v1, ↓vCa, ↓vIx, ↓tP, ↓vAnd, ↓vOr, ↓vNot, ↓vIf, ↓vT, ↓v2, ↓vLc, ↓gI2, ↓gI2c, ↓gLen, ↓gII, ↓gI, ↓gInt1, ↓gRep, ↓gCat, ↓gKids, ↓gIn, ↓iLst, ↓TL.iTup, ↓TL.iRng1, ↓TL.iRng2, ↓iEn, ↓iZp, ↓hName, ↓hCons, ↓hNil, ↓hTup, ↓wSl, ↓wIsi, ↓wYes, rho0, iniE, entOf, allSh, List.replicate, List.length_cons, List.length_nil, Nat.reduceAdd, Nat.reduceSub, Nat.reduceLT, Nat.reduceLeDiff, List.cons_append, List.nil_append, List.getElem?_cons_zero, List.getElem?_cons_succ, Option.bind_some, Ent.tr, Ent.own, Ent.put, setE, killA, noAl_ow, noAl_io1, noAl_no, noAl_ro, noAl_al', killJ_cons, killJ_nil0, noRo_ow, noRo_io, noRo_no, noRo_al, mem1, notIn, noRA_ow, noRA_io, noRA_no, noRA_al, Plc, demE, List.foldl_cons, List.foldl_nil, List.map_cons, List.map_nil, List.set_cons_zero, List.set_cons_succ, endsOf, ↓outsOf, Option.map_some, plSet, TL.putAt, T.put, true_and, and_true, lst_set, lst_snoc, lm_set, lm_snoc, shOnly, shE_ow0, shE_ow1, shE_io, shE_no, Option.isSome_some, reduceIte, if_true, if_false, Bool.false_eq_true, Nat.reduceEqDiff]
      refine ⟨rfl, fit0, rfl, fit0, rfl, fit0, rfl, fit0, callDraw_io (by decide) (by decide) fun d a3 c3 hd0 hd1 => ?_⟩
      simp -dsimp only [↓uSeq, ↓uNext, ↓uFor, ↓uSt, ↓uStV, ↓uAu, ↓uAp, ↓uApMv, ↓uAuN, ↓uAlias, ↓uDem, ↓uBrk, ↓uCnt, ↓uNev, ↓uRet, ↓uRetN, ↓uExp, ↓uExpP, ↓uSet, ↓uSetR, ↓uIf, ↓wVar, ↓wVarV, ↓wC, ↓w1, ↓w2, ↓wT, asB, ↓wChain, ↓wNil, ↓wCons, ↓wAnd, ↓wOr, ↓wNot, ↓wAndV, ↓wOrV, ↓wNotV, ↓wIf, ↓wCallP, ↓wCallV, ↓wCa, ↓wTup, ↓wLst, ↓oNon, ↓oSom, ↓wSlice, ↓wRev, ↓vP, ↓vSh, ↓vFit, ↓vaNil, ↓vaCons, ↓vLst, ↓vTup, ↓vTup0, ↓vList, ↓vRep, ↓vSlice, ↓cSl, ↓vCallN, ↓v1, ↓vCa, ↓vIx, ↓tP, ↓vAnd, ↓vOr, ↓vNot, ↓vIf, ↓vT, ↓v2, ↓vLc, ↓gI2, ↓gI2c, ↓gLen, ↓gII, ↓gI, ↓gInt1, ↓gRep, ↓gCat, ↓gKids, ↓gIn, ↓iLst, ↓TL.iTup, ↓TL.iRng1, ↓TL.iRng2, ↓iEn, ↓iZp, ↓hName, ↓hCons, ↓hNil, ↓hTup, ↓wSl, ↓wIsi, ↓wYes, rho0, iniE, entOf, allSh, List.replicate, List.length_cons, List.length_nil, Nat.reduceAdd, Nat.reduceSub, Nat.reduceLT, Nat.reduceLeDiff, List.cons_append, List.nil_append, List.getElem?_cons_zero, List.getElem?_cons_succ, Option.bind_some, Ent.tr, Ent.own, Ent.put, setE, killA, noAl_ow, noAl_io1, noAl_no, noAl_ro, noAl_al', killJ_cons, killJ_nil0, noRo_ow, noRo_io, noRo_no, noRo_al, mem1, notIn, noRA_ow, noRA_io, noRA_no, noRA_al, Plc, demE, List.foldl_cons, List.foldl_nil, List.map_cons, List.map_nil, List.set_cons_zero, List.set_cons_succ, endsOf, ↓outsOf, Option.map_some, plSet, TL.putAt, T.put, true_and, and_true, lst_set, lst_snoc, lm_set, lm_snoc, shOnly, shE_ow0, shE_ow1, shE_io, shE_no, Option.isSome_some, reduceIte, if_true, if_false, Bool.false_eq_true, Nat.reduceEqDiff]
      refine ⟨fit0, rfl, fit0, callDraw_io (by decide) (by decide) fun e a4 c4 he0 he1 => ?_⟩
      simp -dsimp only [↓uSeq, ↓uNext, ↓uFor, ↓uSt, ↓uStV, ↓uAu, ↓uAp, ↓uApMv, ↓uAuN, ↓uAlias, ↓uDem, ↓uBrk, ↓uCnt, ↓uNev, ↓uRet, ↓uRetN, ↓uExp, ↓uExpP, ↓uSet, ↓uSetR, ↓uIf, ↓wVar, ↓wVarV, ↓wC, ↓w1, ↓w2, ↓wT, asB, ↓wChain, ↓wNil, ↓wCons, ↓wAnd, ↓wOr, ↓wNot, ↓wAndV, ↓wOrV, ↓wNotV, ↓wIf, ↓wCallP, ↓wCallV, ↓wCa, ↓wTup, ↓wLst, ↓oNon, ↓oSom, ↓wSlice, ↓wRev, ↓vP, ↓vSh, ↓vFit, ↓vaNil, ↓vaCons, ↓vLst, ↓vTup, ↓vTup0, ↓vList, ↓vRep, ↓vSlice, ↓cSl, ↓vCallN, ↓v1, ↓vCa, ↓vIx, ↓tP, ↓vAnd, ↓vOr, ↓vNot, ↓vIf, ↓vT, ↓v2, ↓vLc, ↓gI2, ↓gI2c, ↓gLen, ↓gII, ↓gI, ↓gInt1, ↓gRep, ↓gCat, ↓gKids, ↓gIn, ↓iLst, ↓TL.iTup, ↓TL.iRng1, ↓TL.iRng2, ↓iEn, ↓iZp, ↓hName, ↓hCons, ↓hNil, ↓hTup, ↓wSl, ↓wIsi, ↓wYes, rho0, iniE, entOf, allSh, List.replicate, List.length_cons, List.length_nil, Nat.reduceAdd, Nat.reduceSub, Nat.reduceLT, Nat.reduceLeDiff, List.cons_append, List.nil_append, List.getElem?_cons_zero, List.getElem?_cons_succ, Option.bind_some, Ent.tr, Ent.own, Ent.put, setE, killA, noAl_ow, noAl_io1, noAl_no, noAl_ro, noAl_al', killJ_cons, killJ_nil0, noRo_ow, noRo_io, noRo_no, noRo_al, mem1, notIn, noRA_ow, noRA_io, noRA_no, noRA_al, Plc, demE, List.foldl_cons, List.foldl_nil, List.map_cons, List.map_nil, List.set_cons_zero, List.set_cons_succ, endsOf, ↓outsOf, Option.map_some, plSet, TL.putAt, T.put, true_and, and_true, lst_set, lst_snoc, lm_set, lm_snoc, shOnly, shE_ow0, shE_ow1, shE_io, shE_no, Option.isSome_some, reduceIte, if_true, if_false, Bool.false_eq_true, Nat.reduceEqDiff]
      refine ⟨fit0, rfl, fit0, fit0, callPick_io (xs := [0, 0, 1, d, e, 100]) (by simp) (by simp) fun x hx a5 c5 => ?_⟩
      simp -dsimp only [↓uSeq, ↓uNext, ↓uFor, ↓uSt, ↓uStV, ↓uAu, ↓uAp, ↓uApMv, ↓uAuN, ↓uAlias, ↓uDem, ↓uBrk, ↓uCnt, ↓uNev, ↓uRet, ↓uRetN, ↓uExp, ↓uExpP, ↓uSet, ↓uSetR, ↓uIf, ↓wVar, ↓wVarV, ↓wC, ↓w1, ↓w2, ↓wT, asB, ↓wChain, ↓wNil, ↓wCons, ↓wAnd, ↓wOr, ↓wNot, ↓wAndV, ↓wOrV, ↓wNotV, ↓wIf, ↓wCallP, ↓wCallV, ↓wCa, ↓wTup, ↓wLst, ↓oNon, ↓oSom, ↓wSlice, ↓wRev, ↓vP, ↓vSh, ↓vFit, ↓vaNil, ↓vaCons, ↓vLst, ↓vTup, ↓vTup0, ↓vList, ↓vRep, ↓vSlice, ↓cSl, ↓vCallN, ↓v1, ↓vCa, ↓vIx, ↓tP, ↓vAnd, ↓vOr, ↓vNot, ↓vIf, ↓vT, ↓v2, ↓vLc, ↓gI2, ↓gI2c, ↓gLen, ↓gII, ↓gI, ↓gInt1, ↓gRep, ↓gCat, ↓gKids, ↓gIn, ↓iLst, ↓TL.iTup, ↓TL.iRng1, ↓TL.iRng2, ↓iEn, ↓iZp, ↓hName, ↓hCons, ↓hNil, ↓hTup, ↓wSl, ↓wIsi, ↓wYes, rho0, iniE, entOf, allSh, List.replicate, List.length_cons, List.length_nil, Nat.reduceAdd, Nat.reduceSub, Nat.reduceLT, Nat.reduceLeDiff, List.cons_append, List.nil_append, List.getElem?_cons_zero, List.getElem?_cons_succ, Option.bind_some, Ent.tr, Ent.own, Ent.put, setE, killA, noAl_ow, noAl_io1, noAl_no, noAl_ro, noAl_al', killJ_cons, killJ_nil0, noRo_ow, noRo_io, noRo_no, noRo_al, mem1, notIn, noRA_ow, noRA_io, noRA_no, noRA_al, Plc, demE, List.foldl_cons, List.foldl_nil, List.map_cons, List.map_nil, List.set_cons_zero, List.set_cons_succ, endsOf, ↓outsOf, Option.map_some, plSet, TL.putAt, T.put, true_and, and_true, lst_set, lst_snoc, lm_set, lm_snoc, shOnly, shE_ow0, shE_ow1, shE_io, shE_no, Option.isSome_some, reduceIte, if_true, if_false, Bool.false_eq_true, Nat.reduceEqDiff]
      refine ⟨fit0, ?_, as ++ [x], _, _, by rw [List.map_append]; rfl, by simp [hl], fun y hy => ?_, rfl⟩
      · rw [List.length_map]; omega
      · rcases List.mem_append.mp hy with z | z
        · exact ha y z
        · simp at z
          simp at hx
          omega
    · obtain ⟨as, a2, c2, rfl, hl, ha, rfl⟩ := hI
      rw [rgT_len, Int.toNat_natCast] at hl
      simp -dsimp only [↓uSeq, ↓uNext, ↓uFor, ↓uSt, ↓uStV, ↓uAu, ↓uAp, ↓uApMv, ↓uAuN, ↓uAlias, ↓uDem, ↓uBrk, ↓uCnt, ↓uNev, ↓uRet, ↓uRetN, ↓uExp, ↓uExpP, ↓uSet, ↓uSetR, ↓uIf, ↓wVar, ↓wVarV, ↓wC, ↓w1, ↓w2, ↓wT, asB, ↓wChain, ↓wNil, ↓wCons, ↓wAnd, ↓wOr, ↓wNot, ↓wAndV, ↓wOrV, ↓wNotV, ↓wIf, ↓wCallP, ↓wCallV, ↓wCa, ↓wTup, ↓wLst, ↓oNon, ↓oSom, ↓wSlice, ↓wRev, ↓vP, ↓vSh, ↓vFit, ↓vaNil, ↓vaCons, ↓vLst, ↓vTup, ↓vTup0, ↓vList, ↓vRep, ↓vSlice, ↓cSl, ↓vCallN, ↓v1, ↓vCa, ↓vIx, ↓tP, ↓vAnd, ↓vOr, ↓vNot, ↓vIf, ↓vT, ↓v2, ↓vLc, ↓gI2, ↓gI2c, ↓gLen, ↓gII, ↓gI, ↓gInt1, ↓gRep, ↓gCat, ↓gKids, ↓gIn, ↓iLst, ↓TL.iTup, ↓TL.iRng1, ↓TL.iRng2, ↓iEn, ↓iZp, ↓hName, ↓hCons, ↓hNil, ↓hTup, ↓wSl, ↓wIsi, ↓wYes, rho0, iniE, entOf, allSh, List.replicate, List.length_cons, List.length_nil, Nat.reduceAdd, Nat.reduceSub, Nat.reduceLT, Nat.reduceLeDiff, List.cons_append, List.nil_append, List.getElem?_cons_zero, List.getElem?_cons_succ, Option.bind_some, Ent.tr, Ent.own, Ent.put, setE, killA, noAl_ow, noAl_io1, noAl_no, noAl_ro, noAl_al', killJ_cons, killJ_nil0, noRo_ow, noRo_io, noRo_no, noRo_al, mem1, notIn, noRA_ow, noRA_io, noRA_no, noRA_al, Plc, demE, List.foldl_cons, List.foldl_nil, List.map_cons, List.map_nil, List.set_cons_zero, List.set_cons_succ, endsOf, ↓outsOf, Option.map_some, plSet, TL.putAt, T.put, true_and, and_true, lst_set, lst_snoc, lm_set, lm_snoc, shOnly, shE_ow0, shE_ow1, shE_io, shE_no, Option.isSome_some, reduceIte, if_true, if_false, Bool.false_eq_true, Nat.reduceEqDiff]
      exact h as _ _ hl ha
def W__law_level : FnT := fun ts R => ∃ (cl : List Int) (c : Int), ts = [Li cl, .int c] ∧ cl.length ≤ 40 ∧ R 1 (Li (lawLevel cl c)) []
theorem ok__law_level {k : Nat} (G : Gs K mg) : FnOk P w K mg base CX0 (k + 1) G.g__law_level.f G.g__law_level.d ["claims", "coins"] (spT K (allSh 2) W__law_level) := by
  refine fnT (k := k + 0) G.g__law_level.F sc__law_level rfl (fun X cdv A outer s H E hX hr => ?_)
  subst hX
  refine ⟨_, (ts_cons (ts_set 2 sc__law_level.nd rfl (.inr rfl) (tv_p tp_int))
      (ts_cons (ts_for PassesOwn.never rfl (ti_rng2 (by rfl) G.z_range tp_int tp_int) (tg_name 3 sc__law_level.nd rfl (.inr rfl)) (ts_one (ts_if (tvt_cmp op_le opT_bl (tv_callB (cr_sum rfl) caT_sum (by rfl) G.z_sum (by decide +kernel) (tva_cons 0 (tv_lc (own := [("claim", 7)]) 0 [7] rfl sc__law_level.nd (ti_lst (tv_var 0)) (blkOk_by (N := ["claims", "coins", "level", "step", "added", "left", "k", "claim"]) (sc := defScope s__law_level) (by decide +kernel)) (fun _ _ _ _ _ => (tg_name 7 sc__law_level.nd rfl (.inl rfl))) (fun _ _ _ _ _ => tvts_nil) (fun _ _ _ _ _ => (tv_p (tp_callB (call_min2 rfl) caT_ii (by rfl) G.z_min (by decide +kernel) (tpa_cons (tp_var 7) (tpa_cons (tp_var 3) tpa_nil))))) (by decide)) tva_nil)) (tv_p (tp_var 1)) (nomark _)) (ts_one (ts_set 2 sc__law_level.nd rfl (.inr rfl) (tv_p (tp_var 3)))) ts_nil)))
      (ts_cons (ts_setLc (i := 4) (hc := rfl) (hN := sc__law_level.nd) (hy := rfl) (hyl := rfl) (hsw := sw_true rfl rfl rfl (by decide +kernel)) (own := [("claim", 7)]) (k := 0) (js := [7]) (hi := (ti_lst (tv_var 0))) (ok := (blkOk_by (N := ["claims", "coins", "level", "step", "added", "left", "k", "claim"]) (sc := defScope s__law_level) (by decide +kernel))) (hg := fun _ _ _ _ _ => (tg_name 7 sc__law_level.nd rfl (.inl rfl))) (ht := fun _ _ _ _ _ => tvts_nil) (he := fun _ _ _ _ _ => (tv_p (tp_callB (call_min2 rfl) caT_ii (by rfl) G.z_min (by decide +kernel) (tpa_cons (tp_var 7) (tpa_cons (tp_var 2) tpa_nil))))) (hj := by decide))
      (ts_cons (ts_set 5 sc__law_level.nd rfl (.inl rfl) (tv_p (tp_op op_sub opT_int (tp_var 1) (tp_callB (cr_sum rfl) caT_sum (by rfl) G.z_sum (by decide +kernel) (tpa_cons (tp_var 4) tpa_nil)))))
      (ts_cons (ts_for PassesOwn.never rfl (ti_rng1 (by rfl) G.z_range (tp_callB call_len_seq caT_len (by rfl) G.z_len PySem.boot_len (tpa_cons (tp_var 0) tpa_nil))) (tg_name 6 sc__law_level.nd rfl (.inl rfl)) (ts_one (ts_if (tvt_p (TPW.pt (tpw_and (tpt_cmp op_gt opT_bl (tp_var 5) tp_int (nomark _)) (tpw_and1 (tpt_cmp op_gt opT_bl (tp_ix (tp_var 0) (tp_var 6) (fun _ _ => rfl)) (tp_var 2) (nomark _)))))) (ts_cons (ts_store 4 (tv_p (tp_op op_add opT_int (tp_ix (tp_var 4) (tp_var 6) (fun _ _ => rfl)) tp_int)) (tp_var 6))
      (ts_one (ts_set 5 sc__law_level.nd rfl (.inl rfl) (tv_p (tp_op op_sub opT_int (tp_var 5) tp_int))))) ts_nil)))
      (ts_one (ts_ret (tv_var 4)))))))), fun ts R hW hlen => ?_⟩

  obtain ⟨cl, c, rfl, h0, h⟩ := hW
  simp -dsimp only [↓uSeq, ↓uNext, ↓uFor, ↓uSt, ↓uStV, ↓uAu, ↓uAp, ↓uApMv, ↓uAuN, ↓uAlias, ↓uDem, ↓uBrk, ↓uCnt, ↓uNev, ↓uRet, ↓uRetN, ↓uExp, ↓uExpP, ↓uSet, ↓uSetR, ↓uIf, ↓wVar, ↓wVarV, ↓wC, ↓w1, ↓w2, ↓wT, asB, ↓wChain, ↓wNil, ↓wCons, ↓wAnd, ↓wOr, ↓wNot, ↓wAndV, ↓wOrV, ↓wNotV, ↓wIf, ↓wCallP, ↓wCallV, ↓wCa, ↓wTup, ↓wLst, ↓oNon, ↓oSom, ↓wSlice, ↓wRev, ↓vP, ↓vSh, ↓vFit, ↓vaNil, ↓vaCons, ↓vLst, ↓vTup, ↓vTup0, ↓vList, ↓vRep, ↓vSlice, ↓cSl, ↓vCallN, ↓v1, ↓vCa, ↓vIx, ↓tP, ↓vAnd, ↓vOr, ↓vNot, ↓vIf, ↓vT, ↓v2, ↓vLc, ↓gI2, ↓gI2c, ↓gLen, ↓gII, ↓gI, ↓gInt1, ↓gRep, ↓gCat, ↓gKids, ↓gIn, ↓iLst, ↓TL.iTup, ↓TL.iRng1, ↓TL.iRng2, ↓iEn, ↓iZp, ↓hName, ↓hCons, ↓hNil, ↓hTup, ↓wSl, ↓wIsi, ↓wYes, rho0, iniE, entOf, allSh, List.replicate, List.length_cons, List.length_nil, Nat.reduceAdd, Nat.reduceSub, Nat.reduceLT, Nat.reduceLeDiff, List.cons_append, List.nil_append, List.getElem?_cons_zero, List.getElem?_cons_succ, Option.bind_some, Ent.tr, Ent.own, Ent.put, setE, killA, noAl_ow, noAl_io1, noAl_no, noAl_ro, noAl_al', killJ_cons, killJ_nil0, noRo_ow, noRo_io, noRo_no, noRo_al, mem1, notIn, noRA_ow, noRA_io, noRA_no, noRA_al, Plc, demE, List.foldl_cons, List.foldl_nil, List.map_cons, List.map_nil, List.set_cons_zero, List.set_cons_succ, endsOf, ↓outsOf, Option.map_some, plSet, TL.putAt, T.put, true_and, and_true, lst_set, lst_snoc, lm_set, lm_snoc, shOnly, shE_ow0, shE_ow1, shE_io, shE_no, Option.isSome_some, reduceIte, if_true, if_false, Bool.false_eq_true, Nat.reduceEqDiff]
  refine ⟨rfl, ⟨by decide, by decide, by decide, by decide⟩, fun i ρ => ∃ lv x3 x4 x5 x6 x7, ρ = [Ent.ow 0 (Li cl), Ent.ow 0 (T.int c), Ent.ow 0 (T.int lv), x3, x4, x5, x6, x7] ∧ lv = lvlN cl c i,
    ⟨_, _, _, _, _, _, rfl, rfl⟩, fun i t ρ hi hI => ?_, fun ρ hI => ?_⟩
  · obtain ⟨lv, x3, x4, x5, x6, x7, rfl, hlv⟩ := hI
    obtain ⟨hlt, rfl⟩ := rgT_get.mp hi
    simp -dsimp only [↓uSeq, ↓uNext, ↓uFor, ↓uSt, ↓uStV, ↓uAu, ↓uAp, ↓uApMv, ↓uAuN, ↓uAlias, ↓uDem, ↓uBrk, ↓uCnt, ↓uNev, ↓uRet, ↓uRetN, ↓uExp, ↓uExpP, ↓uSet, ↓uSetR, ↓uIf, ↓wVar, ↓wVarV, ↓wC, ↓w1, ↓w2, ↓wT, asB, ↓wChain, ↓wNil, ↓wCons, ↓wAnd, ↓wOr, ↓wNot, ↓wAndV, ↓wOrV, ↓wNotV, ↓wIf, ↓wCallP, ↓wCallV, ↓wCa, ↓wTup, ↓wLst, ↓oNon, ↓oSom, ↓wSlice, ↓wRev, ↓vP, ↓vSh, ↓vFit, ↓vaNil, ↓vaCons, ↓vLst, ↓vTup, ↓vTup0, ↓vList, ↓vRep, ↓vSlice, ↓cSl, ↓vCallN, ↓v1, ↓vCa, ↓vIx, ↓tP, ↓vAnd, ↓vOr, ↓vNot, ↓vIf, ↓vT, ↓v2, ↓vLc, ↓gI2, ↓gI2c, ↓gLen, ↓gII, ↓gI, ↓gInt1, ↓gRep, ↓gCat, ↓gKids, ↓gIn, ↓iLst, ↓TL.iTup, ↓TL.iRng1, ↓TL.iRng2, ↓iEn, ↓iZp, ↓hName, ↓hCons, ↓hNil, ↓hTup, ↓wSl, ↓wIsi, ↓wYes, rho0, iniE, entOf, allSh, List.replicate, List.length_cons, List.length_nil, Nat.reduceAdd, Nat.reduceSub, Nat.reduceLT, Nat.reduceLeDiff, List.cons_append, List.nil_append, List.getElem?_cons_zero, List.getElem?_cons_succ, Option.bind_some, Ent.tr, Ent.own, Ent.put, setE, killA, noAl_ow, noAl_io1, noAl_no, noAl_ro, noAl_al', killJ_cons, killJ_nil0, noRo_ow, noRo_io, noRo_no, noRo_al, mem1, notIn, noRA_ow, noRA_io, noRA_no, noRA_al, Plc, demE, List.foldl_cons, List.foldl_nil, List.map_cons, List.map_nil, List.set_cons_zero, List.set_cons_succ, endsOf, ↓outsOf, Option.map_some, plSet, TL.putAt, T.put, true_and, and_true, lst_set, lst_snoc, lm_set, lm_snoc, shOnly, shE_ow0, shE_ow1, shE_io, shE_no, Option.isSome_some, reduceIte, if_true, if_false, Bool.false_eq_true, Nat.reduceEqDiff]
    refine ⟨fun j acc ρ => ∃ as y4 y5 y6, acc = List.map T.int as ∧ as = (cl.map fun x => min x (1 + (i : Int))).take j ∧ ρ = [Ent.ow 0 (Li cl), Ent.ow 0 (T.int c), Ent.ow 0 (T.int lv), Ent.ow 0 (T.int (1 + i)), y4, y5, y6, Ent.no],
      ⟨[], _, _, _, rfl, rfl, rfl⟩, fun j t acc ρ hj hJ => ?_, fun acc ρ hJ => ?_⟩
    · obtain ⟨as, y4, y5, y6, rfl, ha, rfl⟩ := hJ
      obtain ⟨x, hx, rfl⟩ := mapint_get.mp hj
      have jl := (List.getElem?_eq_some_iff.mp hx).1
      simp -dsimp only [↓uSeq, ↓uNext, ↓uFor, ↓uSt, ↓uStV, ↓uAu, ↓uAp, ↓uApMv, ↓uAuN, ↓uAlias, ↓uDem, ↓uBrk, ↓uCnt, ↓uNev, ↓uRet, ↓uRetN, ↓uExp, ↓uExpP, ↓uSet, ↓uSetR, ↓uIf, ↓wVar, ↓wVarV, ↓wC, ↓w1, ↓w2, ↓wT, asB, ↓wChain, ↓wNil, ↓wCons, ↓wAnd, ↓wOr, ↓wNot, ↓wAndV, ↓wOrV, ↓wNotV, ↓wIf, ↓wCallP, ↓wCallV, ↓wCa, ↓wTup, ↓wLst, ↓oNon, ↓oSom, ↓wSlice, ↓wRev, ↓vP, ↓vSh, ↓vFit, ↓vaNil, ↓vaCons, ↓vLst, ↓vTup, ↓vTup0, ↓vList, ↓vRep, ↓vSlice, ↓cSl, ↓vCallN, ↓v1, ↓vCa, ↓vIx, ↓tP, ↓vAnd, ↓vOr, ↓vNot, ↓vIf, ↓vT, ↓v2, ↓vLc, ↓gI2, ↓gI2c, ↓gLen, ↓gII, ↓gI, ↓gInt1, ↓gRep, ↓gCat, ↓gKids, ↓gIn, ↓iLst, ↓TL.iTup, ↓TL.iRng1, ↓TL.iRng2, ↓iEn, ↓iZp, ↓hName, ↓hCons, ↓hNil, ↓hTup, ↓wSl, ↓wIsi, ↓wYes, rho0, iniE, entOf, allSh, List.replicate, List.length_cons, List.length_nil, Nat.reduceAdd, Nat.reduceSub, Nat.reduceLT, Nat.reduceLeDiff, List.cons_append, List.nil_append, List.getElem?_cons_zero, List.getElem?_cons_succ, Option.bind_some, Ent.tr, Ent.own, Ent.put, setE, killA, noAl_ow, noAl_io1, noAl_no, noAl_ro, noAl_al', killJ_cons, killJ_nil0, noRo_ow, noRo_io, noRo_no, noRo_al, mem1, notIn, noRA_ow, noRA_io, noRA_no, noRA_al, Plc, demE, List.foldl_cons, List.foldl_nil, List.map_cons, List.map_nil, List.set_cons_zero, List.set_cons_succ, endsOf, ↓outsOf, Option.map_some, plSet, TL.putAt, T.put, true_and, and_true, lst_set, lst_snoc, lm_set, lm_snoc, shOnly, shE_ow0, shE_ow1, shE_io, shE_no, Option.isSome_some, reduceIte, if_true, if_false, Bool.false_eq_true, Nat.reduceEqDiff]
      rw [mn_min]
      refine ⟨rfl, fit0, ?_, as ++ [min x (1 + (i : Int))], _, _, _, by rw [List.map_append]; rfl, ?_, rfl⟩
      · subst ha; simp; omega
      · rw [ha]
        exact take_snoc (by rw [List.getElem?_map, hx]; rfl)
    · obtain ⟨as, y4, y5, y6, rfl, ha, rfl⟩ := hJ
      rw [show (List.map T.int cl).length = (cl.map fun x => min x (1 + (i : Int))).length by simp, take_len] at ha
      subst ha
      simp -dsimp only [↓uSeq, ↓uNext, ↓uFor, ↓uSt, ↓uStV, ↓uAu, ↓uAp, ↓uApMv, ↓uAuN, ↓uAlias, ↓uDem, ↓uBrk, ↓uCnt, ↓uNev, ↓uRet, ↓uRetN, ↓uExp, ↓uExpP, ↓uSet, ↓uSetR, ↓uIf, ↓wVar, ↓wVarV, ↓wC, ↓w1, ↓w2, ↓wT, asB, ↓wChain, ↓wNil, ↓wCons, ↓wAnd, ↓wOr, ↓wNot, ↓wAndV, ↓wOrV, ↓wNotV, ↓wIf, ↓wCallP, ↓wCallV, ↓wCa, ↓wTup, ↓wLst, ↓oNon, ↓oSom, ↓wSlice, ↓wRev, ↓vP, ↓vSh, ↓vFit, ↓vaNil, ↓vaCons, ↓vLst, ↓vTup, ↓vTup0, ↓vList, ↓vRep, ↓vSlice, ↓cSl, ↓vCallN, ↓v1, ↓vCa, ↓vIx, ↓tP, ↓vAnd, ↓vOr, ↓vNot, ↓vIf, ↓vT, ↓v2, ↓vLc, ↓gI2, ↓gI2c, ↓gLen, ↓gII, ↓gI, ↓gInt1, ↓gRep, ↓gCat, ↓gKids, ↓gIn, ↓iLst, ↓TL.iTup, ↓TL.iRng1, ↓TL.iRng2, ↓iEn, ↓iZp, ↓hName, ↓hCons, ↓hNil, ↓hTup, ↓wSl, ↓wIsi, ↓wYes, rho0, iniE, entOf, allSh, List.replicate, List.length_cons, List.length_nil, Nat.reduceAdd, Nat.reduceSub, Nat.reduceLT, Nat.reduceLeDiff, List.cons_append, List.nil_append, List.getElem?_cons_zero, List.getElem?_cons_succ, Option.bind_some, Ent.tr, Ent.own, Ent.put, setE, killA, noAl_ow, noAl_io1, noAl_no, noAl_ro, noAl_al', killJ_cons, killJ_nil0, noRo_ow, noRo_io, noRo_no, noRo_al, mem1, notIn, noRA_ow, noRA_io, noRA_no, noRA_al, Plc, demE, List.foldl_cons, List.foldl_nil, List.map_cons, List.map_nil, List.set_cons_zero, List.set_cons_succ, endsOf, ↓outsOf, Option.map_some, plSet, TL.putAt, T.put, true_and, and_true, lst_set, lst_snoc, lm_set, lm_snoc, shOnly, shE_ow0, shE_ow1, shE_io, shE_no, Option.isSome_some, reduceIte, if_true, if_false, Bool.false_eq_true, Nat.reduceEqDiff]
      refine ⟨fit0, _, rfl, rfl, rfl, rfl, ifS (fun q => ?_) (fun q => ?_)⟩
      · have q : capS cl ((i : Int) + 1) ≤ c := by rw [Int.add_comm]; exact of_decide_eq_true q
        exact ⟨rfl, _, _, _, _, _, _, rfl, by unfold lvlN; rw [if_pos q, Int.add_comm]⟩
      · have q : ¬ capS cl ((i : Int) + 1) ≤ c := fun z => q (decide_eq_true (by rw [Int.add_comm] at z; exact z))
        exact ⟨_, _, _, _, _, _, rfl, by unfold lvlN; rw [if_neg q, hlv]⟩
  · obtain ⟨lv, x3, x4, x5, x6, x7, rfl, hlv⟩ := hI
    rw [rgT_len] at hlv
    have hlv : lv = lvlN cl c 41 := hlv
    have h : R 1 (Li (fill cl lv (c - capS cl lv))) [] := by rw [hlv]; exact h
    clear hlv
    simp -dsimp only [↓uSeq, ↓uNext, ↓uFor, ↓uSt, ↓uStV, ↓uAu, ↓uAp, ↓uApMv, ↓uAuN, ↓uAlias, ↓uDem, ↓uBrk, ↓uCnt, ↓uNev, ↓uRet, ↓uRetN, ↓uExp, ↓uExpP, ↓uSet, ↓uSetR, ↓uIf, ↓wVar, ↓wVarV, ↓wC, ↓w1, ↓w2, ↓wT, asB, ↓wChain, ↓wNil, ↓wCons, ↓wAnd, ↓wOr, ↓wNot, ↓wAndV, ↓wOrV, ↓wNotV, ↓wIf, ↓wCallP, ↓wCallV, ↓wCa, ↓wTup, ↓wLst, ↓oNon, ↓oSom, ↓wSlice, ↓wRev, ↓vP, ↓vSh, ↓vFit, ↓vaNil, ↓vaCons, ↓vLst, ↓vTup, ↓vTup0, ↓vList, ↓vRep, ↓vSlice, ↓cSl, ↓vCallN, ↓v1, ↓vCa, ↓vIx, ↓tP, ↓vAnd, ↓vOr, ↓vNot, ↓vIf, ↓vT, ↓v2, ↓vLc, ↓gI2, ↓gI2c, ↓gLen, ↓gII, ↓gI, ↓gInt1, ↓gRep, ↓gCat, ↓gKids, ↓gIn, ↓iLst, ↓TL.iTup, ↓TL.iRng1, ↓TL.iRng2, ↓iEn, ↓iZp, ↓hName, ↓hCons, ↓hNil, ↓hTup, ↓wSl, ↓wIsi, ↓wYes, rho0, iniE, entOf, allSh, List.replicate, List.length_cons, List.length_nil, Nat.reduceAdd, Nat.reduceSub, Nat.reduceLT, Nat.reduceLeDiff, List.cons_append, List.nil_append, List.getElem?_cons_zero, List.getElem?_cons_succ, Option.bind_some, Ent.tr, Ent.own, Ent.put, setE, killA, noAl_ow, noAl_io1, noAl_no, noAl_ro, noAl_al', killJ_cons, killJ_nil0, noRo_ow, noRo_io, noRo_no, noRo_al, mem1, notIn, noRA_ow, noRA_io, noRA_no, noRA_al, Plc, demE, List.foldl_cons, List.foldl_nil, List.map_cons, List.map_nil, List.set_cons_zero, List.set_cons_succ, endsOf, ↓outsOf, Option.map_some, plSet, TL.putAt, T.put, true_and, and_true, lst_set, lst_snoc, lm_set, lm_snoc, shOnly, shE_ow0, shE_ow1, shE_io, shE_no, Option.isSome_some, reduceIte, if_true, if_false, Bool.false_eq_true, Nat.reduceEqDiff]
    refine ⟨fun j acc ρ => ∃ as y3 y4 y5 y6, acc = List.map T.int as ∧ as = (cl.map fun x => min x lv).take j ∧ ρ = [Ent.ow 0 (Li cl), Ent.ow 0 (T.int c), Ent.ow 0 (T.int lv), y3, y4, y5, y6, Ent.no],
      ⟨[], _, _, _, _, rfl, rfl, rfl⟩, fun j t acc ρ hj hJ => ?_, fun acc ρ hJ => ?_⟩
    · obtain ⟨as, y3, y4, y5, y6, rfl, ha, rfl⟩ := hJ
      obtain ⟨x, hx, rfl⟩ := mapint_get.mp hj
      have jl := (List.getElem?_eq_some_iff.mp hx).1
      simp -dsimp only [↓uSeq, ↓uNext, ↓uFor, ↓uSt, ↓uStV, ↓uAu, ↓uAp, ↓uApMv, ↓uAuN, ↓uAlias, ↓uDem, ↓uBrk, ↓uCnt, ↓uNev, ↓uRet, ↓uRetN, ↓uExp, ↓uExpP, ↓uSet, ↓uSetR, ↓uIf, ↓wVar, ↓wVarV, ↓wC, ↓w1, ↓w2, ↓wT, asB, ↓wChain, ↓wNil, ↓wCons, ↓wAnd, ↓wOr, ↓wNot, ↓wAndV, ↓wOrV, ↓wNotV, ↓wIf, ↓wCallP, ↓wCallV, ↓wCa, ↓wTup, ↓wLst, ↓oNon, ↓oSom, ↓wSlice, ↓wRev, ↓vP, ↓vSh, ↓vFit, ↓vaNil, ↓vaCons, ↓vLst, ↓vTup, ↓vTup0, ↓vList, ↓vRep, ↓vSlice, ↓cSl, ↓vCallN, ↓v1, ↓vCa, ↓vIx, ↓tP, ↓vAnd, ↓vOr, ↓vNot, ↓vIf, ↓vT, ↓v2, ↓vLc, ↓gI2, ↓gI2c, ↓gLen, ↓gII, ↓gI, ↓gInt1, ↓gRep, ↓gCat, ↓gKids, ↓gIn, ↓iLst, ↓TL.iTup, ↓TL.iRng1, ↓TL.iRng2, ↓iEn, ↓iZp, ↓hName, ↓hCons, ↓hNil, ↓hTup, ↓wSl, ↓wIsi, ↓wYes, rho0, iniE, entOf, allSh, List.replicate, List.length_cons, List.length_nil, Nat.reduceAdd, Nat.reduceSub, Nat.reduceLT, Nat.reduceLeDiff, List.cons_append, List.nil_append, List.getElem?_cons_zero, List.getElem?_cons_succ, Option.bind_some, Ent.tr, Ent.own, Ent.put, setE, killA, noAl_ow, noAl_io1, noAl_no, noAl_ro, noAl_al', killJ_cons, killJ_nil0, noRo_ow, noRo_io, noRo_no, noRo_al, mem1, notIn, noRA_ow, noRA_io, noRA_no, noRA_al, Plc, demE, List.foldl_cons, List.foldl_nil, List.map_cons, List.map_nil, List.set_cons_zero, List.set_cons_succ, endsOf, ↓outsOf, Option.map_some, plSet, TL.putAt, T.put, true_and, and_true, lst_set, lst_snoc, lm_set, lm_snoc, shOnly, shE_ow0, shE_ow1, shE_io, shE_no, Option.isSome_some, reduceIte, if_true, if_false, Bool.false_eq_true, Nat.reduceEqDiff]
      rw [mn_min]
      refine ⟨rfl, fit0, ?_, as ++ [min x lv], _, _, _, _, by rw [List.map_append]; rfl, ?_, rfl⟩
      · subst ha; simp; omega
      · rw [ha]
        exact take_snoc (by rw [List.getElem?_map, hx]; rfl)
    · obtain ⟨as, y3, y4, y5, y6, rfl, ha, rfl⟩ := hJ
      rw [show (List.map T.int cl).length = (cl.map fun x => min x lv).length by simp, take_len] at ha
      subst ha
      simp -dsimp only [↓uSeq, ↓uNext, ↓uFor, ↓uSt, ↓uStV, ↓uAu, ↓uAp, ↓uApMv, ↓uAuN, ↓uAlias, ↓uDem, ↓uBrk, ↓uCnt, ↓uNev, ↓uRet, ↓uRetN, ↓uExp, ↓uExpP, ↓uSet, ↓uSetR, ↓uIf, ↓wVar, ↓wVarV, ↓wC, ↓w1, ↓w2, ↓wT, asB, ↓wChain, ↓wNil, ↓wCons, ↓wAnd, ↓wOr, ↓wNot, ↓wAndV, ↓wOrV, ↓wNotV, ↓wIf, ↓wCallP, ↓wCallV, ↓wCa, ↓wTup, ↓wLst, ↓oNon, ↓oSom, ↓wSlice, ↓wRev, ↓vP, ↓vSh, ↓vFit, ↓vaNil, ↓vaCons, ↓vLst, ↓vTup, ↓vTup0, ↓vList, ↓vRep, ↓vSlice, ↓cSl, ↓vCallN, ↓v1, ↓vCa, ↓vIx, ↓tP, ↓vAnd, ↓vOr, ↓vNot, ↓vIf, ↓vT, ↓v2, ↓vLc, ↓gI2, ↓gI2c, ↓gLen, ↓gII, ↓gI, ↓gInt1, ↓gRep, ↓gCat, ↓gKids, ↓gIn, ↓iLst, ↓TL.iTup, ↓TL.iRng1, ↓TL.iRng2, ↓iEn, ↓iZp, ↓hName, ↓hCons, ↓hNil, ↓hTup, ↓wSl, ↓wIsi, ↓wYes, rho0, iniE, entOf, allSh, List.replicate, List.length_cons, List.length_nil, Nat.reduceAdd, Nat.reduceSub, Nat.reduceLT, Nat.reduceLeDiff, List.cons_append, List.nil_append, List.getElem?_cons_zero, List.getElem?_cons_succ, Option.bind_some, Ent.tr, Ent.own, Ent.put, setE, killA, noAl_ow, noAl_io1, noAl_no, noAl_ro, noAl_al', killJ_cons, killJ_nil0, noRo_ow, noRo_io, noRo_no, noRo_al, mem1, notIn, noRA_ow, noRA_io, noRA_no, noRA_al, Plc, demE, List.foldl_cons, List.foldl_nil, List.map_cons, List.map_nil, List.set_cons_zero, List.set_cons_succ, endsOf, ↓outsOf, Option.map_some, plSet, TL.putAt, T.put, true_and, and_true, lst_set, lst_snoc, lm_set, lm_snoc, shOnly, shE_ow0, shE_ow1, shE_io, shE_no, Option.isSome_some, reduceIte, if_true, if_false, Bool.false_eq_true, Nat.reduceEqDiff]
      refine ⟨_, rfl, rfl, by simp <;> omega, by simp <;> omega, fun i ρ => ∃ ad lf x3 x6 x7, ρ = [Ent.ow 0 (Li cl), Ent.ow 0 (T.int c), Ent.ow 0 (T.int lv), x3, Ent.ow 1 (Li ad), Ent.ow 0 (T.int lf), x6, x7] ∧ ad = (fill cl lv (c - capS cl lv)).take i ++ (cl.map fun c => min c lv).drop i ∧ lf = leftAt cl lv (c - capS cl lv) i,
        ⟨_, _, _, _, _, rfl, half_zero.symm, by cases cl <;> rfl⟩, fun i t ρ hi hI => ?_, fun ρ hI => ?_⟩
      · obtain ⟨ad, lf, x3, x6, x7, rfl, ha, hb⟩ := hI
        obtain ⟨hlt, rfl⟩ := rgT_get.mp hi
        rw [Int.zero_add]
        rw [List.length_map, Int.toNat_natCast] at hlt
        have hx : cl[i]? = some cl[i] := List.getElem?_eq_getElem hlt
        generalize cl[i] = x at hx
        obtain ⟨s1, s2⟩ := leftAt_step (lv := lv) (left := c - capS cl lv) hx
        have hla : ad[i]? = some (min x lv) := by rw [ha]; exact half_get hx
        have hlen2 : ad.length = cl.length := by rw [ha]; exact half_len (Nat.le_of_lt hlt)
        have hq : ixN (List.map T.int ad).length (i : Int) = some i := ixN_nat (by rw [List.length_map, hlen2]; exact hlt)
        have hst : ∀ v, v = (if leftAt cl lv (c - capS cl lv) i > 0 ∧ x > lv then min x lv + 1 else min x lv) → ad.set i v = (fill cl lv (c - capS cl lv)).take (i + 1) ++ (cl.map fun c => min c lv).drop (i + 1) := fun v hv => by rw [fill_half hx, hv, ha]
        have hsame : ¬ (leftAt cl lv (c - capS cl lv) i > 0 ∧ x > lv) → ad = (fill cl lv (c - capS cl lv)).take (i + 1) ++ (cl.map fun c => min c lv).drop (i + 1) ∧ lf = leftAt cl lv (c - capS cl lv) (i + 1) := fun z => by
          refine ⟨?_, by rw [s1, if_neg z, hb]⟩
          rw [← hst (min x lv) (by rw [if_neg z]), set_self hla]
        simp -dsimp only [hq, ↓uSeq, ↓uNext, ↓uFor, ↓uSt, ↓uStV, ↓uAu, ↓uAp, ↓uApMv, ↓uAuN, ↓uAlias, ↓uDem, ↓uBrk, ↓uCnt, ↓uNev, ↓uRet, ↓uRetN, ↓uExp, ↓uExpP, ↓uSet, ↓uSetR, ↓uIf, ↓wVar, ↓wVarV, ↓wC, ↓w1, ↓w2, ↓wT, asB, ↓wChain, ↓wNil, ↓wCons, ↓wAnd, ↓wOr, ↓wNot, ↓wAndV, ↓wOrV, ↓wNotV, ↓wIf, ↓wCallP, ↓wCallV, ↓wCa, ↓wTup, ↓wLst, ↓oNon, ↓oSom, ↓wSlice, ↓wRev, ↓vP, ↓vSh, ↓vFit, ↓vaNil, ↓vaCons, ↓vLst, ↓vTup, ↓vTup0, ↓vList, ↓vRep, ↓vSlice, ↓cSl, ↓vCallN, ↓v1, ↓vCa, ↓vIx, ↓tP, ↓vAnd, ↓vOr, ↓vNot, ↓vIf, ↓vT, ↓v2, ↓vLc, ↓gI2, ↓gI2c, ↓gLen, ↓gII, ↓gI, ↓gInt1, ↓gRep, ↓gCat, ↓gKids, ↓gIn, ↓iLst, ↓TL.iTup, ↓TL.iRng1, ↓TL.iRng2, ↓iEn, ↓iZp, ↓hName, ↓hCons, ↓hNil, ↓hTup, ↓wSl, ↓wIsi, ↓wYes, rho0, iniE, entOf, allSh, List.replicate, List.length_cons, List.length_nil, Nat.reduceAdd, Nat.reduceSub, Nat.reduceLT, Nat.reduceLeDiff, List.cons_append, List.nil_append, List.getElem?_cons_zero, List.getElem?_cons_succ, Option.bind_some, Ent.tr, Ent.own, Ent.put, setE, killA, noAl_ow, noAl_io1, noAl_no, noAl_ro, noAl_al', killJ_cons, killJ_nil0, noRo_ow, noRo_io, noRo_no, noRo_al, mem1, notIn, noRA_ow, noRA_io, noRA_no, noRA_al, Plc, demE, List.foldl_cons, List.foldl_nil, List.map_cons, List.map_nil, List.set_cons_zero, List.set_cons_succ, endsOf, ↓outsOf, Option.map_some, plSet, TL.putAt, T.put, true_and, and_true, lst_set, lst_snoc, lm_set, lm_snoc, shOnly, shE_ow0, shE_ow1, shE_io, shE_no, Option.isSome_some, reduceIte, if_true, if_false, Bool.false_eq_true, Nat.reduceEqDiff]
        refine ifS (fun q => ?_) (fun q => ?_)
        · have q := of_decide_eq_true q
          refine gIx_Li hx (ifS (fun q2 => ?_) (fun q2 => ?_))
          · have q2 := of_decide_eq_true q2
            refine gIx_Li hla ?_
            simp -dsimp only [↓uSeq, ↓uNext, ↓uFor, ↓uSt, ↓uStV, ↓uAu, ↓uAp, ↓uApMv, ↓uAuN, ↓uAlias, ↓uDem, ↓uBrk, ↓uCnt, ↓uNev, ↓uRet, ↓uRetN, ↓uExp, ↓uExpP, ↓uSet, ↓uSetR, ↓uIf, ↓wVar, ↓wVarV, ↓wC, ↓w1, ↓w2, ↓wT, asB, ↓wChain, ↓wNil, ↓wCons, ↓wAnd, ↓wOr, ↓wNot, ↓wAndV, ↓wOrV, ↓wNotV, ↓wIf, ↓wCallP, ↓wCallV, ↓wCa, ↓wTup, ↓wLst, ↓oNon, ↓oSom, ↓wSlice, ↓wRev, ↓vP, ↓vSh, ↓vFit, ↓vaNil, ↓vaCons, ↓vLst, ↓vTup, ↓vTup0, ↓vList, ↓vRep, ↓vSlice, ↓cSl, ↓vCallN, ↓v1, ↓vCa, ↓vIx, ↓tP, ↓vAnd, ↓vOr, ↓vNot, ↓vIf, ↓vT, ↓v2, ↓vLc, ↓gI2, ↓gI2c, ↓gLen, ↓gII, ↓gI, ↓gInt1, ↓gRep, ↓gCat, ↓gKids, ↓gIn, ↓iLst, ↓TL.iTup, ↓TL.iRng1, ↓TL.iRng2, ↓iEn, ↓iZp, ↓hName, ↓hCons, ↓hNil, ↓hTup, ↓wSl, ↓wIsi, ↓wYes, rho0, iniE, entOf, allSh, List.replicate, List.length_cons, List.length_nil, Nat.reduceAdd, Nat.reduceSub, Nat.reduceLT, Nat.reduceLeDiff, List.cons_append, List.nil_append, List.getElem?_cons_zero, List.getElem?_cons_succ, Option.bind_some, Ent.tr, Ent.own, Ent.put, setE, killA, noAl_ow, noAl_io1, noAl_no, noAl_ro, noAl_al', killJ_cons, killJ_nil0, noRo_ow, noRo_io, noRo_no, noRo_al, mem1, notIn, noRA_ow, noRA_io, noRA_no, noRA_al, Plc, demE, List.foldl_cons, List.foldl_nil, List.map_cons, List.map_nil, List.set_cons_zero, List.set_cons_succ, endsOf, ↓outsOf, Option.map_some, plSet, TL.putAt, T.put, true_and, and_true, lst_set, lst_snoc, lm_set, lm_snoc, shOnly, shE_ow0, shE_ow1, shE_io, shE_no, Option.isSome_some, reduceIte, if_true, if_false, Bool.false_eq_true, Nat.reduceEqDiff]
            exact ⟨rfl, fit0, rfl, ad.set i (min x lv + 1), _, _, _, _, rfl, hst _ (by rw [if_pos ⟨hb ▸ q, q2⟩]), by rw [s1, if_pos ⟨hb ▸ q, q2⟩, ← hb]⟩
          · have q2 : ¬ lv < x := fun z => q2 (decide_eq_true z)
            obtain ⟨z1, z2⟩ := hsame fun z => q2 z.2
            exact ⟨_, _, _, _, _, rfl, z1, z2⟩
        · have q : ¬ 0 < lf := fun z => q (decide_eq_true z)
          obtain ⟨z1, z2⟩ := hsame fun z => q (hb ▸ z.1)
          exact ⟨_, _, _, _, _, rfl, z1, z2⟩
      · obtain ⟨ad, lf, x3, x6, x7, rfl, ha, hb⟩ := hI
        rw [rgT_len, List.length_map, Int.toNat_natCast, half_end] at ha
        subst ha
        simp -dsimp only [↓uSeq, ↓uNext, ↓uFor, ↓uSt, ↓uStV, ↓uAu, ↓uAp, ↓uApMv, ↓uAuN, ↓uAlias, ↓uDem, ↓uBrk, ↓uCnt, ↓uNev, ↓uRet, ↓uRetN, ↓uExp, ↓uExpP, ↓uSet, ↓uSetR, ↓uIf, ↓wVar, ↓wVarV, ↓wC, ↓w1, ↓w2, ↓wT, asB, ↓wChain, ↓wNil, ↓wCons, ↓wAnd, ↓wOr, ↓wNot, ↓wAndV, ↓wOrV, ↓wNotV, ↓wIf, ↓wCallP, ↓wCallV, ↓wCa, ↓wTup, ↓wLst, ↓oNon, ↓oSom, ↓wSlice, ↓wRev, ↓vP, ↓vSh, ↓vFit, ↓vaNil, ↓vaCons, ↓vLst, ↓vTup, ↓vTup0, ↓vList, ↓vRep, ↓vSlice, ↓cSl, ↓vCallN, ↓v1, ↓vCa, ↓vIx, ↓tP, ↓vAnd, ↓vOr, ↓vNot, ↓vIf, ↓vT, ↓v2, ↓vLc, ↓gI2, ↓gI2c, ↓gLen, ↓gII, ↓gI, ↓gInt1, ↓gRep, ↓gCat, ↓gKids, ↓gIn, ↓iLst, ↓TL.iTup, ↓TL.iRng1, ↓TL.iRng2, ↓iEn, ↓iZp, ↓hName, ↓hCons, ↓hNil, ↓hTup, ↓wSl, ↓wIsi, ↓wYes, rho0, iniE, entOf, allSh, List.replicate, List.length_cons, List.length_nil, Nat.reduceAdd, Nat.reduceSub, Nat.reduceLT, Nat.reduceLeDiff, List.cons_append, List.nil_append, List.getElem?_cons_zero, List.getElem?_cons_succ, Option.bind_some, Ent.tr, Ent.own, Ent.put, setE, killA, noAl_ow, noAl_io1, noAl_no, noAl_ro, noAl_al', killJ_cons, killJ_nil0, noRo_ow, noRo_io, noRo_no, noRo_al, mem1, notIn, noRA_ow, noRA_io, noRA_no, noRA_al, Plc, demE, List.foldl_cons, List.foldl_nil, List.map_cons, List.map_nil, List.set_cons_zero, List.set_cons_succ, endsOf, ↓outsOf, Option.map_some, plSet, TL.putAt, T.put, true_and, and_true, lst_set, lst_snoc, lm_set, lm_snoc, shOnly, shE_ow0, shE_ow1, shE_io, shE_no, Option.isSome_some, reduceIte, if_true, if_false, Bool.false_eq_true, Nat.reduceEqDiff]
        exact h
end
end K94
set_option Elab.async false
set_option linter.all false
set_option maxRecDepth 100000
namespace K94
open PySem PySem.Spec PyProof.Rows L2 TL
section
variable {P : Program} {w : World} {K : PySem.W.Frag} {mg : Str → Option Value} {base : Heap}
def W__law_after : FnT := fun ts R => ∃ (m : List (List Int)) (own plan : List Int), ts = [Lm m, Li own, Li plan] ∧ Okm m own ∧ plan.length = own.length ∧ R 1 (Li (afterF m own plan)) []
theorem ok__law_after {k : Nat} (G : Gs K mg) : FnOk P w K mg base CX0 (k + 2) G.g__law_after.f G.g__law_after.d ["matrix", "own", "plan"] (spT K (allSh 3) W__law_after) := by
  refine fnT (k := k + 1) G.g__law_after.F sc__law_after rfl (fun X cdv A outer s H E hX hr => ?_)
  subst hX
  refine ⟨_, (ts_cons (ts_set 3 sc__law_after.nd rfl (.inr rfl) (tv_list (by rfl) G.z_list (tpa_cons (tp_var 1) tpa_nil)))
      (ts_cons (ts_for PassesOwn.never rfl (ti_rng1 (by rfl) G.z_range (tp_callB call_len_seq caT_len (by rfl) G.z_len PySem.boot_len (tpa_cons (tp_var 1) tpa_nil))) (tg_name 4 sc__law_after.nd rfl (.inl rfl)) (ts_cons (ts_set 5 sc__law_after.nd rfl (.inl rfl) (tv_callN (ok__law_level (k := k + 0) G) hr (by rfl) G.g__law_level.g G.g__law_level.F.kp G.g__law_level.b (tpa_cons (tp_ix (tp_var 0) (tp_var 4) (fun _ _ => rfl)) (tpa_cons (tp_ix (tp_var 2) (tp_var 4) (fun _ _ => rfl)) tpa_nil))))
      (ts_one (ts_for PassesOwn.never rfl (ti_rng1 (by rfl) G.z_range (tp_callB call_len_seq caT_len (by rfl) G.z_len PySem.boot_len (tpa_cons (tp_var 1) tpa_nil))) (tg_name 6 sc__law_after.nd rfl (.inl rfl)) (ts_one (ts_store 3 (tv_p (tp_op op_add opT_int (tp_ix (tp_var 3) (tp_var 6) (fun _ _ => rfl)) (tp_ix (tp_var 5) (tp_var 6) (fun _ _ => rfl)))) (tp_var 6)))))))
      (ts_one (ts_ret (tv_lc (own := [("i", 6)]) 0 [6] rfl sc__law_after.nd (ti_rng1 (by rfl) G.z_range (tp_callB call_len_seq caT_len (by rfl) G.z_len PySem.boot_len (tpa_cons (tp_var 1) tpa_nil))) (blkOk_by (N := ["matrix", "own", "plan", "have", "j", "added", "i"]) (sc := defScope s__law_after) (by decide +kernel)) (fun _ _ _ _ _ => (tg_name 6 sc__law_after.nd rfl (.inl rfl))) (fun _ _ _ _ _ => tvts_nil) (fun _ _ _ _ _ => (tv_p (tp_callB (call_min2 rfl) caT_ii (by rfl) G.z_min (by decide +kernel) (tpa_cons (tp_callB (cr_sum rfl) caT_sum (by rfl) G.z_sum (by decide +kernel) (tpa_cons (tp_ix (tp_var 0) (tp_var 6) (fun _ _ => rfl)) tpa_nil)) (tpa_cons (tp_ix (tp_var 3) (tp_var 6) (fun _ _ => rfl)) tpa_nil))))) (by decide)))))), fun ts R hW hlen => ?_⟩

  obtain ⟨m, own, plan, rfl, hm, hp, h⟩ := hW
  have hrl : ∀ r ∈ m, r.length = own.length := fun r hr => (hm.row r hr).1
  have n6 := hm.n6
  have hml := hm.len
  simp -dsimp only [↓uSeq, ↓uNext, ↓uFor, ↓uSt, ↓uStV, ↓uAu, ↓uAp, ↓uApMv, ↓uAuN, ↓uAlias, ↓uDem, ↓uBrk, ↓uCnt, ↓uNev, ↓uRet, ↓uRetN, ↓uExp, ↓uExpP, ↓uSet, ↓uSetR, ↓uIf, ↓wVar, ↓wVarV, ↓wC, ↓w1, ↓w2, ↓wT, asB, ↓wChain, ↓wNil, ↓wCons, ↓wAnd, ↓wOr, ↓wNot, ↓wAndV, ↓wOrV, ↓wNotV, ↓wIf, ↓wCallP, ↓wCallV, ↓wCa, ↓wTup, ↓wLst, ↓oNon, ↓oSom, ↓wSlice, ↓wRev, ↓vP, ↓vSh, ↓vFit, ↓vaNil, ↓vaCons, ↓vLst, ↓vTup, ↓vTup0, ↓vList, ↓vRep, ↓vSlice, ↓cSl, ↓vCallN, ↓v1, ↓vCa, ↓vIx, ↓tP, ↓vAnd, ↓vOr, ↓vNot, ↓vIf, ↓vT, ↓v2, ↓vLc, ↓gI2, ↓gI2c, ↓gLen, ↓gII, ↓gI, ↓gInt1, ↓gRep, ↓gCat, ↓gKids, ↓gIn, ↓iLst, ↓TL.iTup, ↓TL.iRng1, ↓TL.iRng2, ↓iEn, ↓iZp, ↓hName, ↓hCons, ↓hNil, ↓hTup, ↓wSl, ↓wIsi, ↓wYes, rho0, iniE, entOf, allSh, List.replicate, List.length_cons, List.length_nil, Nat.reduceAdd, Nat.reduceSub, Nat.reduceLT, Nat.reduceLeDiff, List.cons_append, List.nil_append, List.getElem?_cons_zero, List.getElem?_cons_succ, Option.bind_some, Ent.tr, Ent.own, Ent.put, setE, killA, noAl_ow, noAl_io1, noAl_no, noAl_ro, noAl_al', killJ_cons, killJ_nil0, noRo_ow, noRo_io, noRo_no, noRo_al, mem1, notIn, noRA_ow, noRA_io, noRA_no, noRA_al, Plc, demE, List.foldl_cons, List.foldl_nil, List.map_cons, List.map_nil, List.set_cons_zero, List.set_cons_succ, endsOf, ↓outsOf, Option.map_some, plSet, TL.putAt, T.put, true_and, and_true, lst_set, lst_snoc, lm_set, lm_snoc, shOnly, shE_ow0, shE_ow1, shE_io, shE_no, Option.isSome_some, reduceIte, if_true, if_false, Bool.false_eq_true, Nat.reduceEqDiff]
  refine ⟨flats_ints _, by simp <;> omega, by simp <;> omega, fun i ρ => ∃ fd x4 x5 x6, ρ = [Ent.ow 0 (Lm m), Ent.ow 0 (Li own), Ent.ow 0 (Li plan), Ent.ow 1 (Li fd), x4, x5, x6] ∧ fd = haveF (m.take i) (plan.take i) own,
    ⟨own, _, _, _, rfl, by cases m <;> rfl⟩, fun i t ρ hi hI => ?_, fun ρ hI => ?_⟩
  · obtain ⟨fd, x4, x5, x6, rfl, hf⟩ := hI
    obtain ⟨hlt, rfl⟩ := rgT_get.mp hi
    rw [Int.zero_add]
    rw [List.length_map, Int.toNat_natCast] at hlt
    have hr : m[i]? = some (m[i]'(by omega)) := List.getElem?_eq_getElem (by omega)
    generalize m[i]'(by omega) = r at hr
    have hc : plan[i]? = some (plan[i]'(by omega)) := List.getElem?_eq_getElem (by omega)
    generalize plan[i]'(by omega) = c at hc
    have rl := hrl r (List.mem_of_getElem? hr)
    have fl : fd.length = own.length := by rw [hf]; exact haveF_len fun q hq => hrl q (List.mem_of_mem_take hq)
    simp -dsimp only [↓uSeq, ↓uNext, ↓uFor, ↓uSt, ↓uStV, ↓uAu, ↓uAp, ↓uApMv, ↓uAuN, ↓uAlias, ↓uDem, ↓uBrk, ↓uCnt, ↓uNev, ↓uRet, ↓uRetN, ↓uExp, ↓uExpP, ↓uSet, ↓uSetR, ↓uIf, ↓wVar, ↓wVarV, ↓wC, ↓w1, ↓w2, ↓wT, asB, ↓wChain, ↓wNil, ↓wCons, ↓wAnd, ↓wOr, ↓wNot, ↓wAndV, ↓wOrV, ↓wNotV, ↓wIf, ↓wCallP, ↓wCallV, ↓wCa, ↓wTup, ↓wLst, ↓oNon, ↓oSom, ↓wSlice, ↓wRev, ↓vP, ↓vSh, ↓vFit, ↓vaNil, ↓vaCons, ↓vLst, ↓vTup, ↓vTup0, ↓vList, ↓vRep, ↓vSlice, ↓cSl, ↓vCallN, ↓v1, ↓vCa, ↓vIx, ↓tP, ↓vAnd, ↓vOr, ↓vNot, ↓vIf, ↓vT, ↓v2, ↓vLc, ↓gI2, ↓gI2c, ↓gLen, ↓gII, ↓gI, ↓gInt1, ↓gRep, ↓gCat, ↓gKids, ↓gIn, ↓iLst, ↓TL.iTup, ↓TL.iRng1, ↓TL.iRng2, ↓iEn, ↓iZp, ↓hName, ↓hCons, ↓hNil, ↓hTup, ↓wSl, ↓wIsi, ↓wYes, rho0, iniE, entOf, allSh, List.replicate, List.length_cons, List.length_nil, Nat.reduceAdd, Nat.reduceSub, Nat.reduceLT, Nat.reduceLeDiff, List.cons_append, List.nil_append, List.getElem?_cons_zero, List.getElem?_cons_succ, Option.bind_some, Ent.tr, Ent.own, Ent.put, setE, killA, noAl_ow, noAl_io1, noAl_no, noAl_ro, noAl_al', killJ_cons, killJ_nil0, noRo_ow, noRo_io, noRo_no, noRo_al, mem1, notIn, noRA_ow, noRA_io, noRA_no, noRA_al, Plc, demE, List.foldl_cons, List.foldl_nil, List.map_cons, List.map_nil, List.set_cons_zero, List.set_cons_succ, endsOf, ↓outsOf, Option.map_some, plSet, TL.putAt, T.put, true_and, and_true, lst_set, lst_snoc, lm_set, lm_snoc, shOnly, shE_ow0, shE_ow1, shE_io, shE_no, Option.isSome_some, reduceIte, if_true, if_false, Bool.false_eq_true, Nat.reduceEqDiff]
    refine gIx_Lm hr (gIx_Li hc ⟨r, c, rfl, by omega, flatAt_Li, by simp <;> omega, by simp <;> omega, ?_⟩)
    refine ⟨fun j ρ => ∃ fe x6, ρ = [Ent.ow 0 (Lm m), Ent.ow 0 (Li own), Ent.ow 0 (Li plan), Ent.ow 1 (Li fe), Ent.ow 0 (T.int i), Ent.ow 1 (Li (lawLevel r c)), x6] ∧ fe = (addV fd (lawLevel r c)).take j ++ fd.drop j,
      ⟨fd, _, rfl, by simp⟩, fun j t ρ hj hJ => ?_, fun ρ hJ => ?_⟩
    · obtain ⟨fe, y6, rfl, hfe⟩ := hJ
      obtain ⟨jlt, rfl⟩ := rgT_get.mp hj
      rw [Int.zero_add]
      rw [List.length_map, Int.toNat_natCast] at jlt
      have hfl : fd.length = (lawLevel r c).length := by rw [lawLevel_len]; omega
      have hx : fd[j]? = some (fd[j]'(by omega)) := List.getElem?_eq_getElem (by omega)
      generalize fd[j]'(by omega) = x at hx
      have hy : (lawLevel r c)[j]? = some ((lawLevel r c)[j]'(by omega)) := List.getElem?_eq_getElem (by omega)
      generalize (lawLevel r c)[j]'(by omega) = y at hy
      have hla : fe[j]? = some x := by rw [hfe]; exact addV_hget hfl hx
      have hq : ixN (List.map T.int fe).length (j : Int) = some j := ixN_nat (by rw [List.length_map, hfe, addV_hlen hfl (by omega)]; omega)
      simp -dsimp only [hq, ↓uSeq, ↓uNext, ↓uFor, ↓uSt, ↓uStV, ↓uAu, ↓uAp, ↓uApMv, ↓uAuN, ↓uAlias, ↓uDem, ↓uBrk, ↓uCnt, ↓uNev, ↓uRet, ↓uRetN, ↓uExp, ↓uExpP, ↓uSet, ↓uSetR, ↓uIf, ↓wVar, ↓wVarV, ↓wC, ↓w1, ↓w2, ↓wT, asB, ↓wChain, ↓wNil, ↓wCons, ↓wAnd, ↓wOr, ↓wNot, ↓wAndV, ↓wOrV, ↓wNotV, ↓wIf, ↓wCallP, ↓wCallV, ↓wCa, ↓wTup, ↓wLst, ↓oNon, ↓oSom, ↓wSlice, ↓wRev, ↓vP, ↓vSh, ↓vFit, ↓vaNil, ↓vaCons, ↓vLst, ↓vTup, ↓vTup0, ↓vList, ↓vRep, ↓vSlice, ↓cSl, ↓vCallN, ↓v1, ↓vCa, ↓vIx, ↓tP, ↓vAnd, ↓vOr, ↓vNot, ↓vIf, ↓vT, ↓v2, ↓vLc, ↓gI2, ↓gI2c, ↓gLen, ↓gII, ↓gI, ↓gInt1, ↓gRep, ↓gCat, ↓gKids, ↓gIn, ↓iLst, ↓TL.iTup, ↓TL.iRng1, ↓TL.iRng2, ↓iEn, ↓iZp, ↓hName, ↓hCons, ↓hNil, ↓hTup, ↓wSl, ↓wIsi, ↓wYes, rho0, iniE, entOf, allSh, List.replicate, List.length_cons, List.length_nil, Nat.reduceAdd, Nat.reduceSub, Nat.reduceLT, Nat.reduceLeDiff, List.cons_append, List.nil_append, List.getElem?_cons_zero, List.getElem?_cons_succ, Option.bind_some, Ent.tr, Ent.own, Ent.put, setE, killA, noAl_ow, noAl_io1, noAl_no, noAl_ro, noAl_al', killJ_cons, killJ_nil0, noRo_ow, noRo_io, noRo_no, noRo_al, mem1, notIn, noRA_ow, noRA_io, noRA_no, noRA_al, Plc, demE, List.foldl_cons, List.foldl_nil, List.map_cons, List.map_nil, List.set_cons_zero, List.set_cons_succ, endsOf, ↓outsOf, Option.map_some, plSet, TL.putAt, T.put, true_and, and_true, lst_set, lst_snoc, lm_set, lm_snoc, shOnly, shE_ow0, shE_ow1, shE_io, shE_no, Option.isSome_some, reduceIte, if_true, if_false, Bool.false_eq_true, Nat.reduceEqDiff]
      refine gIx_Li hla (gIx_Li hy ?_)
      simp -dsimp only [↓uSeq, ↓uNext, ↓uFor, ↓uSt, ↓uStV, ↓uAu, ↓uAp, ↓uApMv, ↓uAuN, ↓uAlias, ↓uDem, ↓uBrk, ↓uCnt, ↓uNev, ↓uRet, ↓uRetN, ↓uExp, ↓uExpP, ↓uSet, ↓uSetR, ↓uIf, ↓wVar, ↓wVarV, ↓wC, ↓w1, ↓w2, ↓wT, asB, ↓wChain, ↓wNil, ↓wCons, ↓wAnd, ↓wOr, ↓wNot, ↓wAndV, ↓wOrV, ↓wNotV, ↓wIf, ↓wCallP, ↓wCallV, ↓wCa, ↓wTup, ↓wLst, ↓oNon, ↓oSom, ↓wSlice, ↓wRev, ↓vP, ↓vSh, ↓vFit, ↓vaNil, ↓vaCons, ↓vLst, ↓vTup, ↓vTup0, ↓vList, ↓vRep, ↓vSlice, ↓cSl, ↓vCallN, ↓v1, ↓vCa, ↓vIx, ↓tP, ↓vAnd, ↓vOr, ↓vNot, ↓vIf, ↓vT, ↓v2, ↓vLc, ↓gI2, ↓gI2c, ↓gLen, ↓gII, ↓gI, ↓gInt1, ↓gRep, ↓gCat, ↓gKids, ↓gIn, ↓iLst, ↓TL.iTup, ↓TL.iRng1, ↓TL.iRng2, ↓iEn, ↓iZp, ↓hName, ↓hCons, ↓hNil, ↓hTup, ↓wSl, ↓wIsi, ↓wYes, rho0, iniE, entOf, allSh, List.replicate, List.length_cons, List.length_nil, Nat.reduceAdd, Nat.reduceSub, Nat.reduceLT, Nat.reduceLeDiff, List.cons_append, List.nil_append, List.getElem?_cons_zero, List.getElem?_cons_succ, Option.bind_some, Ent.tr, Ent.own, Ent.put, setE, killA, noAl_ow, noAl_io1, noAl_no, noAl_ro, noAl_al', killJ_cons, killJ_nil0, noRo_ow, noRo_io, noRo_no, noRo_al, mem1, notIn, noRA_ow, noRA_io, noRA_no, noRA_al, Plc, demE, List.foldl_cons, List.foldl_nil, List.map_cons, List.map_nil, List.set_cons_zero, List.set_cons_succ, endsOf, ↓outsOf, Option.map_some, plSet, TL.putAt, T.put, true_and, and_true, lst_set, lst_snoc, lm_set, lm_snoc, shOnly, shE_ow0, shE_ow1, shE_io, shE_no, Option.isSome_some, reduceIte, if_true, if_false, Bool.false_eq_true, Nat.reduceEqDiff]
      exact ⟨rfl, fit0, _, _, rfl, by rw [hfe]; exact addV_half hfl hx hy⟩
    · obtain ⟨fe, y6, rfl, hfe⟩ := hJ
      rw [rgT_len, List.length_map, Int.toNat_natCast, ← fl, addV_end (by rw [lawLevel_len]; omega)] at hfe
      exact ⟨_, _, _, _, rfl, by rw [haveF_take m plan own i r c hr hc, ← hf]; exact hfe⟩
  · obtain ⟨fd, x4, x5, x6, rfl, hf⟩ := hI
    rw [rgT_len, List.length_map, Int.toNat_natCast, List.take_of_length_le (by omega), List.take_of_length_le (by omega)] at hf
    have fl : fd.length = own.length := by rw [hf]; exact haveF_len hrl
    simp -dsimp only [↓uSeq, ↓uNext, ↓uFor, ↓uSt, ↓uStV, ↓uAu, ↓uAp, ↓uApMv, ↓uAuN, ↓uAlias, ↓uDem, ↓uBrk, ↓uCnt, ↓uNev, ↓uRet, ↓uRetN, ↓uExp, ↓uExpP, ↓uSet, ↓uSetR, ↓uIf, ↓wVar, ↓wVarV, ↓wC, ↓w1, ↓w2, ↓wT, asB, ↓wChain, ↓wNil, ↓wCons, ↓wAnd, ↓wOr, ↓wNot, ↓wAndV, ↓wOrV, ↓wNotV, ↓wIf, ↓wCallP, ↓wCallV, ↓wCa, ↓wTup, ↓wLst, ↓oNon, ↓oSom, ↓wSlice, ↓wRev, ↓vP, ↓vSh, ↓vFit, ↓vaNil, ↓vaCons, ↓vLst, ↓vTup, ↓vTup0, ↓vList, ↓vRep, ↓vSlice, ↓cSl, ↓vCallN, ↓v1, ↓vCa, ↓vIx, ↓tP, ↓vAnd, ↓vOr, ↓vNot, ↓vIf, ↓vT, ↓v2, ↓vLc, ↓gI2, ↓gI2c, ↓gLen, ↓gII, ↓gI, ↓gInt1, ↓gRep, ↓gCat, ↓gKids, ↓gIn, ↓iLst, ↓TL.iTup, ↓TL.iRng1, ↓TL.iRng2, ↓iEn, ↓iZp, ↓hName, ↓hCons, ↓hNil, ↓hTup, ↓wSl, ↓wIsi, ↓wYes, rho0, iniE, entOf, allSh, List.replicate, List.length_cons, List.length_nil, Nat.reduceAdd, Nat.reduceSub, Nat.reduceLT, Nat.reduceLeDiff, List.cons_append, List.nil_append, List.getElem?_cons_zero, List.getElem?_cons_succ, Option.bind_some, Ent.tr, Ent.own, Ent.put, setE, killA, noAl_ow, noAl_io1, noAl_no, noAl_ro, noAl_al', killJ_cons, killJ_nil0, noRo_ow, noRo_io, noRo_no, noRo_al, mem1, notIn, noRA_ow, noRA_io, noRA_no, noRA_al, Plc, demE, List.foldl_cons, List.foldl_nil, List.map_cons, List.map_nil, List.set_cons_zero, List.set_cons_succ, endsOf, ↓outsOf, Option.map_some, plSet, TL.putAt, T.put, true_and, and_true, lst_set, lst_snoc, lm_set, lm_snoc, shOnly, shE_ow0, shE_ow1, shE_io, shE_no, Option.isSome_some, reduceIte, if_true, if_false, Bool.false_eq_true, Nat.reduceEqDiff]
    refine ⟨by simp <;> omega, by simp <;> omega, fun i acc ρ => ∃ as x4 x5, acc = List.map T.int as ∧ as = (afterF m own plan).take i ∧ ρ = [Ent.ow 0 (Lm m), Ent.ow 0 (Li own), Ent.ow 0 (Li plan), Ent.ow 1 (Li fd), x4, x5, Ent.no], ⟨[], _, _, rfl, rfl, rfl⟩, fun i t acc ρ hi hI => ?_, fun acc ρ hI => ?_⟩
    · obtain ⟨as, y4, y5, rfl, ha, rfl⟩ := hI
      obtain ⟨hlt, rfl⟩ := rgT_get.mp hi
      rw [Int.zero_add]
      rw [List.length_map, Int.toNat_natCast] at hlt
      have hr : m[i]? = some (m[i]'(by omega)) := List.getElem?_eq_getElem (by omega)
      generalize m[i]'(by omega) = r at hr
      have hx : fd[i]? = some (fd[i]'(by omega)) := List.getElem?_eq_getElem (by omega)
      generalize fd[i]'(by omega) = x at hx
      simp -dsimp only [↓uSeq, ↓uNext, ↓uFor, ↓uSt, ↓uStV, ↓uAu, ↓uAp, ↓uApMv, ↓uAuN, ↓uAlias, ↓uDem, ↓uBrk, ↓uCnt, ↓uNev, ↓uRet, ↓uRetN, ↓uExp, ↓uExpP, ↓uSet, ↓uSetR, ↓uIf, ↓wVar, ↓wVarV, ↓wC, ↓w1, ↓w2, ↓wT, asB, ↓wChain, ↓wNil, ↓wCons, ↓wAnd, ↓wOr, ↓wNot, ↓wAndV, ↓wOrV, ↓wNotV, ↓wIf, ↓wCallP, ↓wCallV, ↓wCa, ↓wTup, ↓wLst, ↓oNon, ↓oSom, ↓wSlice, ↓wRev, ↓vP, ↓vSh, ↓vFit, ↓vaNil, ↓vaCons, ↓vLst, ↓vTup, ↓vTup0, ↓vList, ↓vRep, ↓vSlice, ↓cSl, ↓vCallN, ↓v1, ↓vCa, ↓vIx, ↓tP, ↓vAnd, ↓vOr, ↓vNot, ↓vIf, ↓vT, ↓v2, ↓vLc, ↓gI2, ↓gI2c, ↓gLen, ↓gII, ↓gI, ↓gInt1, ↓gRep, ↓gCat, ↓gKids, ↓gIn, ↓iLst, ↓TL.iTup, ↓TL.iRng1, ↓TL.iRng2, ↓iEn, ↓iZp, ↓hName, ↓hCons, ↓hNil, ↓hTup, ↓wSl, ↓wIsi, ↓wYes, rho0, iniE, entOf, allSh, List.replicate, List.length_cons, List.length_nil, Nat.reduceAdd, Nat.reduceSub, Nat.reduceLT, Nat.reduceLeDiff, List.cons_append, List.nil_append, List.getElem?_cons_zero, List.getElem?_cons_succ, Option.bind_some, Ent.tr, Ent.own, Ent.put, setE, killA, noAl_ow, noAl_io1, noAl_no, noAl_ro, noAl_al', killJ_cons, killJ_nil0, noRo_ow, noRo_io, noRo_no, noRo_al, mem1, notIn, noRA_ow, noRA_io, noRA_no, noRA_al, Plc, demE, List.foldl_cons, List.foldl_nil, List.map_cons, List.map_nil, List.set_cons_zero, List.set_cons_succ, endsOf, ↓outsOf, Option.map_some, plSet, TL.putAt, T.put, true_and, and_true, lst_set, lst_snoc, lm_set, lm_snoc, shOnly, shE_ow0, shE_ow1, shE_io, shE_no, Option.isSome_some, reduceIte, if_true, if_false, Bool.false_eq_true, Nat.reduceEqDiff]
      refine gIx_Lm hr ⟨r, rfl, gIx_Li hx ⟨rfl, fit0, ?_, ?_⟩⟩
      · subst ha; simp; omega
      · refine ⟨as ++ [if x < r.sum then x else r.sum], _, _, by rw [List.map_append]; rfl, ?_, rfl⟩
        rw [ha]
        exact take_snoc (afterF_get hr (by rw [← hf]; exact hx))
    · obtain ⟨as, y4, y5, rfl, ha, rfl⟩ := hI
      have e2 : (afterF m own plan).length = own.length := by
        unfold afterF
        rw [List.length_zipWith, haveF_len hrl, hm.len]; omega
      rw [rgT_len, List.length_map, Int.toNat_natCast, ← e2, take_len] at ha
      subst ha
      exact h
def W__law_plans : FnT := fun ts R => ∃ (m : List (List Int)) (own p : List Int) (d : Nat), ts = [Lm m, Li own, Li p] ∧ Okall m own p d ∧ R 1 (Lm (planF m own p d)) []
theorem ok__law_plans {k : Nat} (G : Gs K mg) : FnOk P w K mg base CX0 (k + 3) G.g__law_plans.f G.g__law_plans.d ["matrix", "own", "first"] (spT K (allSh 3) W__law_plans) := by
  refine fnT (k := k + 2) G.g__law_plans.F sc__law_plans rfl (fun X cdv A outer s H E hX hr => ?_)
  subst hX
  refine ⟨_, (ts_cons (ts_set 3 sc__law_plans.nd rfl (.inl rfl) (tv_lst 0 (tva_cons 0 (tv_var 2) tva_nil) (by simp) (by decide)))
      (ts_cons (ts_for PassesOwn.never rfl (ti_rng1 (by rfl) G.z_range tp_int) (tg_name 4 sc__law_plans.nd rfl (.inl rfl)) (ts_cons (ts_set 5 sc__law_plans.nd rfl (.inl rfl) (tv_callN (ok__law_after (k := k + 0) G) hr (by rfl) G.g__law_after.g G.g__law_after.F.kp G.g__law_after.b (tpa_cons (tp_var 0) (tpa_cons (tp_var 1) (tpa_cons (tp_ix (tp_var 3) (tp_un un_neg unT_int tp_int) (fun _ _ => rfl)) tpa_nil)))))
      (ts_cons (ts_if (tvt_p (tpt_cmp (op_eqD (eqU hr)) opT_eqD (tp_var 5) (tp_ix (tp_var 3) (tp_un un_neg unT_int tp_int) (fun _ _ => rfl)) (nomark _))) (ts_one ts_break) ts_nil)
      (ts_one (ts_app 3 (tv_var 5))))))
      (ts_one (ts_ret (tv_var 3))))), fun ts R hW hlen => ?_⟩

  obtain ⟨m, own, p, d, rfl, hm, h⟩ := hW
  simp -dsimp only [↓uSeq, ↓uNext, ↓uFor, ↓uSt, ↓uStV, ↓uAu, ↓uAp, ↓uApMv, ↓uAuN, ↓uAlias, ↓uDem, ↓uBrk, ↓uCnt, ↓uNev, ↓uRet, ↓uRetN, ↓uExp, ↓uExpP, ↓uSet, ↓uSetR, ↓uIf, ↓wVar, ↓wVarV, ↓wC, ↓w1, ↓w2, ↓wT, asB, ↓wChain, ↓wNil, ↓wCons, ↓wAnd, ↓wOr, ↓wNot, ↓wAndV, ↓wOrV, ↓wNotV, ↓wIf, ↓wCallP, ↓wCallV, ↓wCa, ↓wTup, ↓wLst, ↓oNon, ↓oSom, ↓wSlice, ↓wRev, ↓vP, ↓vSh, ↓vFit, ↓vaNil, ↓vaCons, ↓vLst, ↓vTup, ↓vTup0, ↓vList, ↓vRep, ↓vSlice, ↓cSl, ↓vCallN, ↓v1, ↓vCa, ↓vIx, ↓tP, ↓vAnd, ↓vOr, ↓vNot, ↓vIf, ↓vT, ↓v2, ↓vLc, ↓gI2, ↓gI2c, ↓gLen, ↓gII, ↓gI, ↓gInt1, ↓gRep, ↓gCat, ↓gKids, ↓gIn, ↓iLst, ↓TL.iTup, ↓TL.iRng1, ↓TL.iRng2, ↓iEn, ↓iZp, ↓hName, ↓hCons, ↓hNil, ↓hTup, ↓wSl, ↓wIsi, ↓wYes, rho0, iniE, entOf, allSh, List.replicate, List.length_cons, List.length_nil, Nat.reduceAdd, Nat.reduceSub, Nat.reduceLT, Nat.reduceLeDiff, List.cons_append, List.nil_append, List.getElem?_cons_zero, List.getElem?_cons_succ, Option.bind_some, Ent.tr, Ent.own, Ent.put, setE, killA, noAl_ow, noAl_io1, noAl_no, noAl_ro, noAl_al', killJ_cons, killJ_nil0, noRo_ow, noRo_io, noRo_no, noRo_al, mem1, notIn, noRA_ow, noRA_io, noRA_no, noRA_al, Plc, demE, List.foldl_cons, List.foldl_nil, List.map_cons, List.map_nil, List.set_cons_zero, List.set_cons_succ, endsOf, ↓outsOf, Option.map_some, plSet, TL.putAt, T.put, true_and, and_true, lst_set, lst_snoc, lm_set, lm_snoc, shOnly, shE_ow0, shE_ow1, shE_io, shE_no, Option.isSome_some, reduceIte, if_true, if_false, Bool.false_eq_true, Nat.reduceEqDiff]
  have hd := hm.s.le
  refine ⟨fit0, by omega, by omega, fun i ρ => ∃ ps x4 x5, ρ = [Ent.ow 0 (Lm m), Ent.ow 0 (Li own), Ent.ow 0 (Li p), Ent.ow 1 (Lm ps), x4, x5] ∧ i ≤ d ∧ ps = planF m own p i,
    ⟨_, _, _, rfl, Nat.zero_le _, rfl⟩, fun i t ρ hi hI => ?_, fun ρ hI => ?_⟩
  · obtain ⟨ps, x4, x5, rfl, id, hps⟩ := hI
    obtain ⟨hlt, rfl⟩ := rgT_get.mp hi
    have hl : (List.map (fun xs => Li xs) ps).getLast? = some (Li (itF m own p i)) := by rw [hps]; exact getLast_map planF_last
    simp -dsimp only [↓uSeq, ↓uNext, ↓uFor, ↓uSt, ↓uStV, ↓uAu, ↓uAp, ↓uApMv, ↓uAuN, ↓uAlias, ↓uDem, ↓uBrk, ↓uCnt, ↓uNev, ↓uRet, ↓uRetN, ↓uExp, ↓uExpP, ↓uSet, ↓uSetR, ↓uIf, ↓wVar, ↓wVarV, ↓wC, ↓w1, ↓w2, ↓wT, asB, ↓wChain, ↓wNil, ↓wCons, ↓wAnd, ↓wOr, ↓wNot, ↓wAndV, ↓wOrV, ↓wNotV, ↓wIf, ↓wCallP, ↓wCallV, ↓wCa, ↓wTup, ↓wLst, ↓oNon, ↓oSom, ↓wSlice, ↓wRev, ↓vP, ↓vSh, ↓vFit, ↓vaNil, ↓vaCons, ↓vLst, ↓vTup, ↓vTup0, ↓vList, ↓vRep, ↓vSlice, ↓cSl, ↓vCallN, ↓v1, ↓vCa, ↓vIx, ↓tP, ↓vAnd, ↓vOr, ↓vNot, ↓vIf, ↓vT, ↓v2, ↓vLc, ↓gI2, ↓gI2c, ↓gLen, ↓gII, ↓gI, ↓gInt1, ↓gRep, ↓gCat, ↓gKids, ↓gIn, ↓iLst, ↓TL.iTup, ↓TL.iRng1, ↓TL.iRng2, ↓iEn, ↓iZp, ↓hName, ↓hCons, ↓hNil, ↓hTup, ↓wSl, ↓wIsi, ↓wYes, rho0, iniE, entOf, allSh, List.replicate, List.length_cons, List.length_nil, Nat.reduceAdd, Nat.reduceSub, Nat.reduceLT, Nat.reduceLeDiff, List.cons_append, List.nil_append, List.getElem?_cons_zero, List.getElem?_cons_succ, Option.bind_some, Ent.tr, Ent.own, Ent.put, setE, killA, noAl_ow, noAl_io1, noAl_no, noAl_ro, noAl_al', killJ_cons, killJ_nil0, noRo_ow, noRo_io, noRo_no, noRo_al, mem1, notIn, noRA_ow, noRA_io, noRA_no, noRA_al, Plc, demE, List.foldl_cons, List.foldl_nil, List.map_cons, List.map_nil, List.set_cons_zero, List.set_cons_succ, endsOf, ↓outsOf, Option.map_some, plSet, TL.putAt, T.put, true_and, and_true, lst_set, lst_snoc, lm_set, lm_snoc, shOnly, shE_ow0, shE_ow1, shE_io, shE_no, Option.isSome_some, reduceIte, if_true, if_false, Bool.false_eq_true, Nat.reduceEqDiff]
    refine gIx_last hl ⟨m, own, itF m own p i, rfl, hm.k, (hm.q i).len, flatAt_Li, gIx_last hl ⟨okd_eqok (n := 1) okd_Li (by omega), okd_eqok (n := 1) okd_Li (by omega), ?_⟩⟩
    rw [eqv_Li]
    refine ifS (fun q => ?_) (fun q => ?_)
    · have q : afterF m own (itF m own p i) = itF m own p i := by simpa using q
      have q : itF m own p (i + 1) = itF m own p i := q
      have e : i = d := by
        rcases Nat.lt_or_ge i d with z | z
        · exact absurd q (hm.s.go i z)
        · omega
      subst e
      rw [hps]
      exact h
    · have q : ¬ afterF m own (itF m own p i) = itF m own p i := by simpa using q
      have q : itF m own p (i + 1) ≠ itF m own p i := q
      have hlt2 : i < d := by
        rcases Nat.lt_or_ge i d with z | z
        · exact z
        · have e : i = d := by omega
          subst e
          exact absurd hm.s.st q
      simp -dsimp only [↓uSeq, ↓uNext, ↓uFor, ↓uSt, ↓uStV, ↓uAu, ↓uAp, ↓uApMv, ↓uAuN, ↓uAlias, ↓uDem, ↓uBrk, ↓uCnt, ↓uNev, ↓uRet, ↓uRetN, ↓uExp, ↓uExpP, ↓uSet, ↓uSetR, ↓uIf, ↓wVar, ↓wVarV, ↓wC, ↓w1, ↓w2, ↓wT, asB, ↓wChain, ↓wNil, ↓wCons, ↓wAnd, ↓wOr, ↓wNot, ↓wAndV, ↓wOrV, ↓wNotV, ↓wIf, ↓wCallP, ↓wCallV, ↓wCa, ↓wTup, ↓wLst, ↓oNon, ↓oSom, ↓wSlice, ↓wRev, ↓vP, ↓vSh, ↓vFit, ↓vaNil, ↓vaCons, ↓vLst, ↓vTup, ↓vTup0, ↓vList, ↓vRep, ↓vSlice, ↓cSl, ↓vCallN, ↓v1, ↓vCa, ↓vIx, ↓tP, ↓vAnd, ↓vOr, ↓vNot, ↓vIf, ↓vT, ↓v2, ↓vLc, ↓gI2, ↓gI2c, ↓gLen, ↓gII, ↓gI, ↓gInt1, ↓gRep, ↓gCat, ↓gKids, ↓gIn, ↓iLst, ↓TL.iTup, ↓TL.iRng1, ↓TL.iRng2, ↓iEn, ↓iZp, ↓hName, ↓hCons, ↓hNil, ↓hTup, ↓wSl, ↓wIsi, ↓wYes, rho0, iniE, entOf, allSh, List.replicate, List.length_cons, List.length_nil, Nat.reduceAdd, Nat.reduceSub, Nat.reduceLT, Nat.reduceLeDiff, List.cons_append, List.nil_append, List.getElem?_cons_zero, List.getElem?_cons_succ, Option.bind_some, Ent.tr, Ent.own, Ent.put, setE, killA, noAl_ow, noAl_io1, noAl_no, noAl_ro, noAl_al', killJ_cons, killJ_nil0, noRo_ow, noRo_io, noRo_no, noRo_al, mem1, notIn, noRA_ow, noRA_io, noRA_no, noRA_al, Plc, demE, List.foldl_cons, List.foldl_nil, List.map_cons, List.map_nil, List.set_cons_zero, List.set_cons_succ, endsOf, ↓outsOf, Option.map_some, plSet, TL.putAt, T.put, true_and, and_true, lst_set, lst_snoc, lm_set, lm_snoc, shOnly, shE_ow0, shE_ow1, shE_io, shE_no, Option.isSome_some, reduceIte, if_true, if_false, Bool.false_eq_true, Nat.reduceEqDiff]
      refine ⟨fit0, ?_, ?_⟩
      · rw [hps]; simp [planF_len]; omega
      · exact ⟨ps ++ [afterF m own (itF m own p i)], _, _, rfl, hlt2, by rw [hps]; exact planF_succ⟩
  · obtain ⟨ps, x4, x5, rfl, id, hps⟩ := hI
    rw [rgT_len] at id
    have id : 1300 ≤ d := id
    omega
def W__law_copied : FnT := fun ts R => ∃ (m : List (List Int)), ts = [Lm m] ∧ m.length ≤ 5000 ∧ R 2 (Lm m) []
theorem ok__law_copied {k : Nat} (G : Gs K mg) : FnOk P w K mg base CX0 (k + 1) G.g__law_copied.f G.g__law_copied.d ["rows"] (spT K (allSh 1) W__law_copied) := by
  refine fnT (k := k + 0) G.g__law_copied.F sc__law_copied rfl (fun X cdv A outer s H E hX hr => ?_)
  subst hX
  refine ⟨_, (ts_one (ts_ret (tv_lc (own := [("row", 1)]) 1 [1] rfl sc__law_copied.nd (ti_lst (tv_var 0)) (blkOk_by (N := ["rows", "row"]) (sc := defScope s__law_copied) (by decide +kernel)) (fun _ _ _ _ _ => (tg_name 1 sc__law_copied.nd rfl (.inl rfl))) (fun _ _ _ _ _ => tvts_nil) (fun _ _ _ _ _ => (tv_list (by rfl) G.z_list (tpa_cons (tp_var 1) tpa_nil))) (by decide)))), fun ts R hW hlen => ?_⟩

  obtain ⟨m, rfl, hm, h⟩ := hW
  simp -dsimp only [↓uSeq, ↓uNext, ↓uFor, ↓uSt, ↓uStV, ↓uAu, ↓uAp, ↓uApMv, ↓uAuN, ↓uAlias, ↓uDem, ↓uBrk, ↓uCnt, ↓uNev, ↓uRet, ↓uRetN, ↓uExp, ↓uExpP, ↓uSet, ↓uSetR, ↓uIf, ↓wVar, ↓wVarV, ↓wC, ↓w1, ↓w2, ↓wT, asB, ↓wChain, ↓wNil, ↓wCons, ↓wAnd, ↓wOr, ↓wNot, ↓wAndV, ↓wOrV, ↓wNotV, ↓wIf, ↓wCallP, ↓wCallV, ↓wCa, ↓wTup, ↓wLst, ↓oNon, ↓oSom, ↓wSlice, ↓wRev, ↓vP, ↓vSh, ↓vFit, ↓vaNil, ↓vaCons, ↓vLst, ↓vTup, ↓vTup0, ↓vList, ↓vRep, ↓vSlice, ↓cSl, ↓vCallN, ↓v1, ↓vCa, ↓vIx, ↓tP, ↓vAnd, ↓vOr, ↓vNot, ↓vIf, ↓vT, ↓v2, ↓vLc, ↓gI2, ↓gI2c, ↓gLen, ↓gII, ↓gI, ↓gInt1, ↓gRep, ↓gCat, ↓gKids, ↓gIn, ↓iLst, ↓TL.iTup, ↓TL.iRng1, ↓TL.iRng2, ↓iEn, ↓iZp, ↓hName, ↓hCons, ↓hNil, ↓hTup, ↓wSl, ↓wIsi, ↓wYes, rho0, iniE, entOf, allSh, List.replicate, List.length_cons, List.length_nil, Nat.reduceAdd, Nat.reduceSub, Nat.reduceLT, Nat.reduceLeDiff, List.cons_append, List.nil_append, List.getElem?_cons_zero, List.getElem?_cons_succ, Option.bind_some, Ent.tr, Ent.own, Ent.put, setE, killA, noAl_ow, noAl_io1, noAl_no, noAl_ro, noAl_al', killJ_cons, killJ_nil0, noRo_ow, noRo_io, noRo_no, noRo_al, mem1, notIn, noRA_ow, noRA_io, noRA_no, noRA_al, Plc, demE, List.foldl_cons, List.foldl_nil, List.map_cons, List.map_nil, List.set_cons_zero, List.set_cons_succ, endsOf, ↓outsOf, Option.map_some, plSet, TL.putAt, T.put, true_and, and_true, lst_set, lst_snoc, lm_set, lm_snoc, shOnly, shE_ow0, shE_ow1, shE_io, shE_no, Option.isSome_some, reduceIte, if_true, if_false, Bool.false_eq_true, Nat.reduceEqDiff]
  refine ⟨fun i acc ρ => ∃ as, acc = List.map (fun xs => Li xs) as ∧ as = m.take i ∧ ρ = [Ent.ow 0 (Lm m), Ent.no], ⟨[], rfl, rfl, rfl⟩, fun i t acc ρ hi hI => ?_, fun acc ρ hI => ?_⟩
  · obtain ⟨as, rfl, ha, rfl⟩ := hI
    obtain ⟨r, hr, rfl⟩ := mapLi_get.mp hi
    have il := (List.getElem?_eq_some_iff.mp hr).1
    simp -dsimp only [↓uSeq, ↓uNext, ↓uFor, ↓uSt, ↓uStV, ↓uAu, ↓uAp, ↓uApMv, ↓uAuN, ↓uAlias, ↓uDem, ↓uBrk, ↓uCnt, ↓uNev, ↓uRet, ↓uRetN, ↓uExp, ↓uExpP, ↓uSet, ↓uSetR, ↓uIf, ↓wVar, ↓wVarV, ↓wC, ↓w1, ↓w2, ↓wT, asB, ↓wChain, ↓wNil, ↓wCons, ↓wAnd, ↓wOr, ↓wNot, ↓wAndV, ↓wOrV, ↓wNotV, ↓wIf, ↓wCallP, ↓wCallV, ↓wCa, ↓wTup, ↓wLst, ↓oNon, ↓oSom, ↓wSlice, ↓wRev, ↓vP, ↓vSh, ↓vFit, ↓vaNil, ↓vaCons, ↓vLst, ↓vTup, ↓vTup0, ↓vList, ↓vRep, ↓vSlice, ↓cSl, ↓vCallN, ↓v1, ↓vCa, ↓vIx, ↓tP, ↓vAnd, ↓vOr, ↓vNot, ↓vIf, ↓vT, ↓v2, ↓vLc, ↓gI2, ↓gI2c, ↓gLen, ↓gII, ↓gI, ↓gInt1, ↓gRep, ↓gCat, ↓gKids, ↓gIn, ↓iLst, ↓TL.iTup, ↓TL.iRng1, ↓TL.iRng2, ↓iEn, ↓iZp, ↓hName, ↓hCons, ↓hNil, ↓hTup, ↓wSl, ↓wIsi, ↓wYes, rho0, iniE, entOf, allSh, List.replicate, List.length_cons, List.length_nil, Nat.reduceAdd, Nat.reduceSub, Nat.reduceLT, Nat.reduceLeDiff, List.cons_append, List.nil_append, List.getElem?_cons_zero, List.getElem?_cons_succ, Option.bind_some, Ent.tr, Ent.own, Ent.put, setE, killA, noAl_ow, noAl_io1, noAl_no, noAl_ro, noAl_al', killJ_cons, killJ_nil0, noRo_ow, noRo_io, noRo_no, noRo_al, mem1, notIn, noRA_ow, noRA_io, noRA_no, noRA_al, Plc, demE, List.foldl_cons, List.foldl_nil, List.map_cons, List.map_nil, List.set_cons_zero, List.set_cons_succ, endsOf, ↓outsOf, Option.map_some, plSet, TL.putAt, T.put, true_and, and_true, lst_set, lst_snoc, lm_set, lm_snoc, shOnly, shE_ow0, shE_ow1, shE_io, shE_no, Option.isSome_some, reduceIte, if_true, if_false, Bool.false_eq_true, Nat.reduceEqDiff]
    refine ⟨flats_ints _, .inl (Nat.le_refl _), ?_, as ++ [r], ?_, ?_⟩
    · subst ha; simp; omega
    · rw [List.map_append]; rfl
    · rw [ha, take_snoc hr]
  · obtain ⟨as, rfl, ha, rfl⟩ := hI
    rw [List.length_map, take_len] at ha
    subst ha
    exact h
theorem cut_ex (plans : List (List Int)) (lo hi : Option Int) : ∃ o : List (List Int), cutT (List.map (fun xs => Li xs) plans) lo hi = List.map (fun xs => Li xs) o ∧ o.length ≤ plans.length ∧ ∀ r ∈ o, r ∈ plans := by
  unfold cutT
  rw [List.length_map]
  refine ⟨(plans.drop (HT.sIx plans.length 0 lo)).take (HT.sIx plans.length plans.length hi - HT.sIx plans.length 0 lo), by rw [List.map_take, List.map_drop], ?_, fun r hr => List.mem_of_mem_drop (List.mem_of_mem_take hr)⟩
  rw [List.length_take, List.length_drop]
  omega
def W__law_other_plans : FnT := fun ts R => ∃ (a b c : Int) (plans up : List (List Int)) (nn : Nat), ts = [Li [a, b, c], Lm plans, Lm up] ∧ 0 < plans.length ∧ plans.length ≤ 1300 ∧ up.length ≤ 1300 ∧ 0 < nn ∧ nn ≤ 6 ∧ (∀ r ∈ plans, r.length = nn) ∧ (∀ r ∈ up, r.length = nn) ∧ ∀ (o : List (List Int)) a' c', o.length ≤ 3000 → (∀ r ∈ o, r.length ≤ 7) → R 0 (Lm o) [Li [a', b, c']]
set_option maxHeartbeats 4000000 in
theorem ok__law_other_plans {k : Nat} (G : Gs K mg) : FnOk P w K mg base CX0 (k + 4) G.g__law_other_plans.f G.g__law_other_plans.d ["pool", "plans", "up"] (spT K [.io 1, .sh, .sh] W__law_other_plans) := by
  refine fnT (k := k + 3) G.g__law_other_plans.F sc__law_other_plans rfl (fun X cdv A outer s H E hX hr => ?_)
  subst hX
  refine ⟨_, (ts_cons (ts_set 3 sc__law_other_plans.nd rfl (.inl rfl) (tv_callN (ok__law_copied (k := k + 2) G) hr (by rfl) G.g__law_copied.g G.g__law_copied.F.kp G.g__law_copied.b (tpa_cons (tp_var 1) tpa_nil)))
      (ts_cons (ts_set 4 sc__law_other_plans.nd rfl (.inl rfl) (tv_call (ok__law_draw (k := k + 1) G) hr (by rfl) G.g__law_draw.g G.g__law_draw.F.kp G.g__law_draw.b (tca_sl 0 (tca_tv 0 (tv_p tp_int) tca_nil))))
      (ts_cons (ts_set 5 sc__law_other_plans.nd rfl (.inl rfl) (tv_call (ok__law_draw (k := k + 1) G) hr (by rfl) G.g__law_draw.g G.g__law_draw.F.kp G.g__law_draw.b (tca_sl 0 (tca_tv 0 (tv_p (tp_callB call_len_seq caT_len (by rfl) G.z_len PySem.boot_len (tpa_cons (tp_var 3) tpa_nil))) tca_nil))))
      (ts_cons (ts_if (tvt_p (tpt_cmp op_eq opT_eqS (tp_var 4) tp_int (nomark _))) (ts_one (ts1_dem [3] (ts_ret (tv_fit 0 (tv_sh (tp_op op_cat opT_cat (tp_slice (tp_var 3) tpo_none (tpo_some (tp_var 5))) (tp_slice (tp_var 3) (tpo_some (tp_op op_add opT_int (tp_var 5) tp_int)) tpo_none))))))) ts_nil)
      (ts_cons (ts_if (tvt_p (tpt_cmp op_eq opT_eqS (tp_var 4) tp_int (nomark _))) (ts_one (ts1_dem [3] (ts_ret (tv_fit 0 (tv_sh (tp_op op_cat opT_cat (tp_slice (tp_var 3) tpo_none (tpo_some (tp_op op_add opT_int (tp_var 5) tp_int))) (tp_slice (tp_var 3) (tpo_some (tp_var 5)) tpo_none))))))) ts_nil)
      (ts_cons (ts_if (tvt_p (tpt_cmp op_eq opT_eqS (tp_var 4) tp_int (nomark _))) (ts_one (ts1_dem [3] (ts_ret (tv_fit 0 (tv_sh (tp_op op_cat opT_cat (tp_var 3) (tp_lst (tpa_cons (tp_callTy call_list_of caT_list (by rfl) G.z_list (by decide +kernel) (tpa_cons (tp_ix (tp_var 3) (tp_un un_neg unT_int tp_int) (fun _ _ => rfl)) tpa_nil)) tpa_nil)))))))) ts_nil)
      (ts_cons (ts_if (tvt_p (tpt_cmp op_eq opT_eqS (tp_var 4) tp_int (nomark _))) (ts_one (ts_ret (tv_fit 0 (tv_callN (ok__law_copied (k := k + 2) G) hr (by rfl) G.g__law_copied.g G.g__law_copied.F.kp G.g__law_copied.b (tpa_cons (tp_var 2) tpa_nil))))) ts_nil)
      (ts_cons (ts_if (tvt_p (tpt_cmp op_eq opT_eqS (tp_var 4) tp_int (nomark _))) (ts_one (ts1_dem [3] (ts_ret (tv_fit 0 (tv_sh (tp_rev (tp_var 3))))))) ts_nil)
      (ts_cons (ts_if (tvt_p (tpt_cmp op_eq opT_eqS (tp_var 4) tp_int (nomark _))) (ts_one (ts1_dem [3] (ts_ret (tv_fit 0 (tv_sh (tp_slice (tp_var 3) (tpo_some (tp_un un_neg unT_int tp_int)) tpo_none)))))) ts_nil)
      (ts_cons (ts_if (tvt_p (tpt_cmp op_eq opT_eqS (tp_var 4) tp_int (nomark _))) (ts_one (ts1_dem [3] (ts_ret (tv_fit 0 (tv_lc (own := [("row", 6)]) 0 [6] rfl sc__law_other_plans.nd (ti_lst (tv_var 3)) (blkOk_by (N := ["pool", "plans", "up", "told", "turn", "at", "row", "spot"]) (sc := defScope s__law_other_plans) (by decide +kernel)) (fun _ _ _ _ _ => (tg_name 6 sc__law_other_plans.nd rfl (.inl rfl))) (fun _ _ _ _ _ => tvts_nil) (fun _ _ _ _ _ => (tv_sh (tp_op op_cat opT_cat (tp_var 6) (tp_lst (tpa_cons tp_int tpa_nil))))) (by decide)))))) ts_nil)
      (ts_cons (ts_alias 6 3 sc__law_other_plans.nd rfl (.inl rfl) (tp_var 5) (fun _ _ => rfl))
      (ts_cons (ts_set 7 sc__law_other_plans.nd rfl (.inl rfl) (tv_call (ok__law_draw (k := k + 1) G) hr (by rfl) G.g__law_draw.g G.g__law_draw.F.kp G.g__law_draw.b (tca_sl 0 (tca_tv 0 (tv_p (tp_callB call_len_seq caT_len (by rfl) G.z_len PySem.boot_len (tpa_cons (tp_var 6) tpa_nil))) tca_nil))))
      (ts_cons (ts_store 6 (tv_op op_add opT_int (tv_p (tp_ix (tp_var 6) (tp_var 7) (fun _ _ => rfl))) (tv_call (ok__law_pick (k := k + 0) G) hr (by rfl) G.g__law_pick.g G.g__law_pick.F.kp G.g__law_pick.b (tca_sl 0 (tca_tv 0 (tv_sh (tp_lst (tpa_cons tp_int (tpa_cons (tp_op op_sub opT_int tp_int tp_int) (tpa_cons tp_int (tpa_cons (tp_op op_pow opT_intc tp_int tp_int) tpa_nil)))))) tca_nil)))) (tp_var 7))
      (ts_cons (ts_if (tvt_p (TPW.pt (tpw_and (tpt_cmp op_eq opT_eqS (tp_var 4) tp_int (nomark _)) (tpw_and1 (tpt_cmp op_gt opT_bl (tp_var 5) tp_int (nomark _)))))) (ts_one (ts_store 6 (tv_p (tp_ix (tp_ix (tp_var 1) (tp_op op_sub opT_int (tp_var 5) tp_int) (fun _ _ => rfl)) (tp_var 7) (fun _ _ => rfl))) (tp_var 7))) ts_nil)
      (ts_one (ts_ret (tv_fit 0 (tv_var 3)))))))))))))))))), fun ts R hW hlen => ?_⟩

  obtain ⟨a, b, c, plans, up, nn, rfl, h0, h1, h2, h3, h4, h5, h6, h⟩ := hW
  simp -dsimp only [↓uSeq, ↓uNext, ↓uFor, ↓uSt, ↓uStV, ↓uAu, ↓uAp, ↓uApMv, ↓uAuN, ↓uAlias, ↓uDem, ↓uBrk, ↓uCnt, ↓uNev, ↓uRet, ↓uRetN, ↓uExp, ↓uExpP, ↓uSet, ↓uSetR, ↓uIf, ↓wVar, ↓wVarV, ↓wC, ↓w1, ↓w2, ↓wT, asB, ↓wChain, ↓wNil, ↓wCons, ↓wAnd, ↓wOr, ↓wNot, ↓wAndV, ↓wOrV, ↓wNotV, ↓wIf, ↓wCallP, ↓wCallV, ↓wCa, ↓wTup, ↓wLst, ↓oNon, ↓oSom, ↓wSlice, ↓wRev, ↓vP, ↓vSh, ↓vFit, ↓vaNil, ↓vaCons, ↓vLst, ↓vTup, ↓vTup0, ↓vList, ↓vRep, ↓vSlice, ↓cSl, ↓vCallN, ↓v1, ↓vCa, ↓vIx, ↓tP, ↓vAnd, ↓vOr, ↓vNot, ↓vIf, ↓vT, ↓v2, ↓vLc, ↓gI2, ↓gI2c, ↓gLen, ↓gII, ↓gI, ↓gInt1, ↓gRep, ↓gCat, ↓gKids, ↓gIn, ↓iLst, ↓TL.iTup, ↓TL.iRng1, ↓TL.iRng2, ↓iEn, ↓iZp, ↓hName, ↓hCons, ↓hNil, ↓hTup, ↓wSl, ↓wIsi, ↓wYes, rho0, iniE, entOf, allSh, List.replicate, List.length_cons, List.length_nil, Nat.reduceAdd, Nat.reduceSub, Nat.reduceLT, Nat.reduceLeDiff, List.cons_append, List.nil_append, List.getElem?_cons_zero, List.getElem?_cons_succ, Option.bind_some, Ent.tr, Ent.own, Ent.put, setE, killA, noAl_ow, noAl_io1, noAl_no, noAl_ro, noAl_al', killJ_cons, killJ_nil0, noRo_ow, noRo_io, noRo_no, noRo_al, mem1, notIn, noRA_ow, noRA_io, noRA_no, noRA_al, Plc, demE, List.foldl_cons, List.foldl_nil, List.map_cons, List.map_nil, List.set_cons_zero, List.set_cons_succ, endsOf, ↓outsOf, Option.map_some, plSet, TL.putAt, T.put, true_and, and_true, lst_set, lst_snoc, lm_set, lm_snoc, shOnly, shE_ow0, shE_ow1, shE_io, shE_no, Option.isSome_some, reduceIte, if_true, if_false, Bool.false_eq_true, Nat.reduceEqDiff]
  refine ⟨plans, rfl, by omega, flatAt_Lm, rfl, fit0, callDraw_io (by decide) (by decide) fun turn a1 c1 t0 t1 => ?_⟩
  simp -dsimp only [↓uSeq, ↓uNext, ↓uFor, ↓uSt, ↓uStV, ↓uAu, ↓uAp, ↓uApMv, ↓uAuN, ↓uAlias, ↓uDem, ↓uBrk, ↓uCnt, ↓uNev, ↓uRet, ↓uRetN, ↓uExp, ↓uExpP, ↓uSet, ↓uSetR, ↓uIf, ↓wVar, ↓wVarV, ↓wC, ↓w1, ↓w2, ↓wT, asB, ↓wChain, ↓wNil, ↓wCons, ↓wAnd, ↓wOr, ↓wNot, ↓wAndV, ↓wOrV, ↓wNotV, ↓wIf, ↓wCallP, ↓wCallV, ↓wCa, ↓wTup, ↓wLst, ↓oNon, ↓oSom, ↓wSlice, ↓wRev, ↓vP, ↓vSh, ↓vFit, ↓vaNil, ↓vaCons, ↓vLst, ↓vTup, ↓vTup0, ↓vList, ↓vRep, ↓vSlice, ↓cSl, ↓vCallN, ↓v1, ↓vCa, ↓vIx, ↓tP, ↓vAnd, ↓vOr, ↓vNot, ↓vIf, ↓vT, ↓v2, ↓vLc, ↓gI2, ↓gI2c, ↓gLen, ↓gII, ↓gI, ↓gInt1, ↓gRep, ↓gCat, ↓gKids, ↓gIn, ↓iLst, ↓TL.iTup, ↓TL.iRng1, ↓TL.iRng2, ↓iEn, ↓iZp, ↓hName, ↓hCons, ↓hNil, ↓hTup, ↓wSl, ↓wIsi, ↓wYes, rho0, iniE, entOf, allSh, List.replicate, List.length_cons, List.length_nil, Nat.reduceAdd, Nat.reduceSub, Nat.reduceLT, Nat.reduceLeDiff, List.cons_append, List.nil_append, List.getElem?_cons_zero, List.getElem?_cons_succ, Option.bind_some, Ent.tr, Ent.own, Ent.put, setE, killA, noAl_ow, noAl_io1, noAl_no, noAl_ro, noAl_al', killJ_cons, killJ_nil0, noRo_ow, noRo_io, noRo_no, noRo_al, mem1, notIn, noRA_ow, noRA_io, noRA_no, noRA_al, Plc, demE, List.foldl_cons, List.foldl_nil, List.map_cons, List.map_nil, List.set_cons_zero, List.set_cons_succ, endsOf, ↓outsOf, Option.map_some, plSet, TL.putAt, T.put, true_and, and_true, lst_set, lst_snoc, lm_set, lm_snoc, shOnly, shE_ow0, shE_ow1, shE_io, shE_no, Option.isSome_some, reduceIte, if_true, if_false, Bool.false_eq_true, Nat.reduceEqDiff]
  rw [show (List.map (fun xs => Li xs) plans).length = plans.length from List.length_map _]
  refine ⟨rfl, fit0, callDraw_io (by omega) (by omega) fun at' a2 c2 k0 k1 => ?_⟩
  obtain ⟨k, rfl⟩ := Int.eq_ofNat_of_zero_le k0
  have nf := Bool.false_ne_true
  simp -dsimp only [↓uSeq, ↓uNext, ↓uFor, ↓uSt, ↓uStV, ↓uAu, ↓uAp, ↓uApMv, ↓uAuN, ↓uAlias, ↓uDem, ↓uBrk, ↓uCnt, ↓uNev, ↓uRet, ↓uRetN, ↓uExp, ↓uExpP, ↓uSet, ↓uSetR, ↓uIf, ↓wVar, ↓wVarV, ↓wC, ↓w1, ↓w2, ↓wT, asB, ↓wChain, ↓wNil, ↓wCons, ↓wAnd, ↓wOr, ↓wNot, ↓wAndV, ↓wOrV, ↓wNotV, ↓wIf, ↓wCallP, ↓wCallV, ↓wCa, ↓wTup, ↓wLst, ↓oNon, ↓oSom, ↓wSlice, ↓wRev, ↓vP, ↓vSh, ↓vFit, ↓vaNil, ↓vaCons, ↓vLst, ↓vTup, ↓vTup0, ↓vList, ↓vRep, ↓vSlice, ↓cSl, ↓vCallN, ↓v1, ↓vCa, ↓vIx, ↓tP, ↓vAnd, ↓vOr, ↓vNot, ↓vIf, ↓vT, ↓v2, ↓vLc, ↓gI2, ↓gI2c, ↓gLen, ↓gII, ↓gI, ↓gInt1, ↓gRep, ↓gCat, ↓gKids, ↓gIn, ↓iLst, ↓TL.iTup, ↓TL.iRng1, ↓TL.iRng2, ↓iEn, ↓iZp, ↓hName, ↓hCons, ↓hNil, ↓hTup, ↓wSl, ↓wIsi, ↓wYes, rho0, iniE, entOf, allSh, List.replicate, List.length_cons, List.length_nil, Nat.reduceAdd, Nat.reduceSub, Nat.reduceLT, Nat.reduceLeDiff, List.cons_append, List.nil_append, List.getElem?_cons_zero, List.getElem?_cons_succ, Option.bind_some, Ent.tr, Ent.own, Ent.put, setE, killA, noAl_ow, noAl_io1, noAl_no, noAl_ro, noAl_al', killJ_cons, killJ_nil0, noRo_ow, noRo_io, noRo_no, noRo_al, mem1, notIn, noRA_ow, noRA_io, noRA_no, noRA_al, Plc, demE, List.foldl_cons, List.foldl_nil, List.map_cons, List.map_nil, List.set_cons_zero, List.set_cons_succ, endsOf, ↓outsOf, Option.map_some, plSet, TL.putAt, T.put, true_and, and_true, lst_set, lst_snoc, lm_set, lm_snoc, shOnly, shE_ow0, shE_ow1, shE_io, shE_no, Option.isSome_some, reduceIte, if_true, if_false, Bool.false_eq_true, Nat.reduceEqDiff]
  refine ifS (fun _ => ?_) (fun _ => ifS (fun _ => ?_) (fun _ => ifS (fun _ => ?_) (fun _ => ifS (fun _ => ?_) (fun _ => ifS (fun _ => ?_) (fun _ => ifS (fun _ => ?_) (fun _ => ifS (fun _ => ?_) (fun _ => ?_)))))))

  · obtain ⟨o1, e1, l1, m1⟩ := cut_ex plans none (some (k : Int))
    obtain ⟨o2, e2, l2, m2⟩ := cut_ex plans (some ((k : Int) + 1)) none
    rw [e1, e2, ← List.map_append]
    exact ⟨by rw [List.length_map, List.length_map]; omega, fit0, h _ _ _ (by rw [List.length_append]; omega) fun r hr => by
      rcases List.mem_append.mp hr with z | z
      · rw [h5 r (m1 r z)]; omega
      · rw [h5 r (m2 r z)]; omega⟩
  · obtain ⟨o1, e1, l1, m1⟩ := cut_ex plans none (some ((k : Int) + 1))
    obtain ⟨o2, e2, l2, m2⟩ := cut_ex plans (some (k : Int)) none
    rw [e1, e2, ← List.map_append]
    exact ⟨by rw [List.length_map, List.length_map]; omega, fit0, h _ _ _ (by rw [List.length_append]; omega) fun r hr => by
      rcases List.mem_append.mp hr with z | z
      · rw [h5 r (m1 r z)]; omega
      · rw [h5 r (m2 r z)]; omega⟩
  · obtain ⟨l, hl⟩ : ∃ l, plans.getLast? = some l := by
      cases q : plans.getLast? with
      | none => rw [List.getLast?_eq_none_iff] at q; rw [q] at h0; exact absurd h0 (by simp)
      | some l => exact ⟨l, rfl⟩
    have z := h (plans ++ [l]) a2 c2 (by rw [List.length_append, List.length_singleton]; omega) fun r hr => by
      rcases List.mem_append.mp hr with z | z
      · rw [h5 r z]; omega
      · rw [h5 r (by rw [List.mem_singleton.mp z]; exact List.mem_of_getLast? hl)]; omega
    rw [← lm_snoc] at z
    exact gIx_last (getLast_map hl) ⟨by rw [List.length_map]; omega, fit0, z⟩
  · exact ⟨up, rfl, by omega, flatAt_Lm, fit0, h _ _ _ (by omega) fun r hr => by rw [h6 r hr]; omega⟩
  · rw [← List.map_reverse]
    exact ⟨fit0, h _ _ _ (by rw [List.length_reverse]; omega) fun r hr => by rw [h5 r (List.mem_reverse.mp hr)]; omega⟩
  · obtain ⟨o1, e1, l1, m1⟩ := cut_ex plans (some (-1)) none
    rw [e1]
    exact ⟨fit0, h _ _ _ (by omega) fun r hr => by rw [h5 r (m1 r hr)]; omega⟩
  · refine ⟨fun i acc ρ => ∃ as, acc = List.map (fun xs => Li xs) as ∧ as = (plans.map fun r => r ++ [0]).take i ∧ ρ = [Ent.io 1 (Li [a2, b, c2]), Ent.ow 0 (Lm plans), Ent.ow 0 (Lm up), Ent.ow 0 (Lm plans), Ent.ow 0 (T.int turn), Ent.ow 0 (T.int k), Ent.no, Ent.no], ⟨[], rfl, rfl, rfl⟩, fun i t acc ρ hi hI => ?_, fun acc ρ hI => ?_⟩
    · obtain ⟨as, rfl, ha, rfl⟩ := hI
      obtain ⟨r, hr, rfl⟩ := mapLi_get.mp hi
      have rl := h5 r (List.mem_of_getElem? hr)
      have il := (List.getElem?_eq_some_iff.mp hr).1
      simp -dsimp only [↓uSeq, ↓uNext, ↓uFor, ↓uSt, ↓uStV, ↓uAu, ↓uAp, ↓uApMv, ↓uAuN, ↓uAlias, ↓uDem, ↓uBrk, ↓uCnt, ↓uNev, ↓uRet, ↓uRetN, ↓uExp, ↓uExpP, ↓uSet, ↓uSetR, ↓uIf, ↓wVar, ↓wVarV, ↓wC, ↓w1, ↓w2, ↓wT, asB, ↓wChain, ↓wNil, ↓wCons, ↓wAnd, ↓wOr, ↓wNot, ↓wAndV, ↓wOrV, ↓wNotV, ↓wIf, ↓wCallP, ↓wCallV, ↓wCa, ↓wTup, ↓wLst, ↓oNon, ↓oSom, ↓wSlice, ↓wRev, ↓vP, ↓vSh, ↓vFit, ↓vaNil, ↓vaCons, ↓vLst, ↓vTup, ↓vTup0, ↓vList, ↓vRep, ↓vSlice, ↓cSl, ↓vCallN, ↓v1, ↓vCa, ↓vIx, ↓tP, ↓vAnd, ↓vOr, ↓vNot, ↓vIf, ↓vT, ↓v2, ↓vLc, ↓gI2, ↓gI2c, ↓gLen, ↓gII, ↓gI, ↓gInt1, ↓gRep, ↓gCat, ↓gKids, ↓gIn, ↓iLst, ↓TL.iTup, ↓TL.iRng1, ↓TL.iRng2, ↓iEn, ↓iZp, ↓hName, ↓hCons, ↓hNil, ↓hTup, ↓wSl, ↓wIsi, ↓wYes, rho0, iniE, entOf, allSh, List.replicate, List.length_cons, List.length_nil, Nat.reduceAdd, Nat.reduceSub, Nat.reduceLT, Nat.reduceLeDiff, List.cons_append, List.nil_append, List.getElem?_cons_zero, List.getElem?_cons_succ, Option.bind_some, Ent.tr, Ent.own, Ent.put, setE, killA, noAl_ow, noAl_io1, noAl_no, noAl_ro, noAl_al', killJ_cons, killJ_nil0, noRo_ow, noRo_io, noRo_no, noRo_al, mem1, notIn, noRA_ow, noRA_io, noRA_no, noRA_al, Plc, demE, List.foldl_cons, List.foldl_nil, List.map_cons, List.map_nil, List.set_cons_zero, List.set_cons_succ, endsOf, ↓outsOf, Option.map_some, plSet, TL.putAt, T.put, true_and, and_true, lst_set, lst_snoc, lm_set, lm_snoc, shOnly, shE_ow0, shE_ow1, shE_io, shE_no, Option.isSome_some, reduceIte, if_true, if_false, Bool.false_eq_true, Nat.reduceEqDiff]
      refine ⟨by rw [List.length_map]; omega, fit0, ?_, as ++ [r ++ [0]], ?_, ?_⟩
      · subst ha; simp; omega
      · rw [List.map_append]; rfl
      · rw [ha]
        exact take_snoc (by rw [List.getElem?_map, hr]; rfl)
    · obtain ⟨as, rfl, ha, rfl⟩ := hI
      exact ⟨fit0, h _ _ _ (by rw [ha, List.length_take, List.length_map]; omega) fun r hr => by
        rw [ha] at hr
        obtain ⟨q, hq, rfl⟩ := List.mem_map.mp (List.mem_of_mem_take hr)
        rw [List.length_append, h5 q hq, List.length_singleton]; omega⟩
  · have hk : k < plans.length := by omega
    have hr : plans[k]? = some plans[k] := List.getElem?_eq_getElem hk
    have rl := h5 _ (List.getElem_mem hk)
    generalize plans[k] = r at hr rl
    have hq : ixN (List.map (fun xs => Li xs) plans).length (k : Int) = some k := ixN_nat (by rw [List.length_map]; exact hk)
    have ho : (List.map (fun xs => Li xs) plans)[k]? = some (Li r) := mapLi_get.mpr ⟨_, hr, rfl⟩
    simp -dsimp only [hq, ho, ↓uSeq, ↓uNext, ↓uFor, ↓uSt, ↓uStV, ↓uAu, ↓uAp, ↓uApMv, ↓uAuN, ↓uAlias, ↓uDem, ↓uBrk, ↓uCnt, ↓uNev, ↓uRet, ↓uRetN, ↓uExp, ↓uExpP, ↓uSet, ↓uSetR, ↓uIf, ↓wVar, ↓wVarV, ↓wC, ↓w1, ↓w2, ↓wT, asB, ↓wChain, ↓wNil, ↓wCons, ↓wAnd, ↓wOr, ↓wNot, ↓wAndV, ↓wOrV, ↓wNotV, ↓wIf, ↓wCallP, ↓wCallV, ↓wCa, ↓wTup, ↓wLst, ↓oNon, ↓oSom, ↓wSlice, ↓wRev, ↓vP, ↓vSh, ↓vFit, ↓vaNil, ↓vaCons, ↓vLst, ↓vTup, ↓vTup0, ↓vList, ↓vRep, ↓vSlice, ↓cSl, ↓vCallN, ↓v1, ↓vCa, ↓vIx, ↓tP, ↓vAnd, ↓vOr, ↓vNot, ↓vIf, ↓vT, ↓v2, ↓vLc, ↓gI2, ↓gI2c, ↓gLen, ↓gII, ↓gI, ↓gInt1, ↓gRep, ↓gCat, ↓gKids, ↓gIn, ↓iLst, ↓TL.iTup, ↓TL.iRng1, ↓TL.iRng2, ↓iEn, ↓iZp, ↓hName, ↓hCons, ↓hNil, ↓hTup, ↓wSl, ↓wIsi, ↓wYes, rho0, iniE, entOf, allSh, List.replicate, List.length_cons, List.length_nil, Nat.reduceAdd, Nat.reduceSub, Nat.reduceLT, Nat.reduceLeDiff, List.cons_append, List.nil_append, List.getElem?_cons_zero, List.getElem?_cons_succ, Option.bind_some, Ent.tr, Ent.own, Ent.put, setE, killA, noAl_ow, noAl_io1, noAl_no, noAl_ro, noAl_al', killJ_cons, killJ_nil0, noRo_ow, noRo_io, noRo_no, noRo_al, mem1, notIn, noRA_ow, noRA_io, noRA_no, noRA_al, Plc, demE, List.foldl_cons, List.foldl_nil, List.map_cons, List.map_nil, List.set_cons_zero, List.set_cons_succ, endsOf, ↓outsOf, Option.map_some, plSet, TL.putAt, T.put, true_and, and_true, lst_set, lst_snoc, lm_set, lm_snoc, shOnly, shE_ow0, shE_ow1, shE_io, shE_no, Option.isSome_some, reduceIte, if_true, if_false, Bool.false_eq_true, Nat.reduceEqDiff]
    rw [show (List.map T.int r).length = r.length from List.length_map _]
    refine ⟨by decide, rfl, fit0, callDraw_io (by omega) (by omega) fun sp a3 c3 s0 s1 => ?_⟩
    obtain ⟨j, rfl⟩ := Int.eq_ofNat_of_zero_le s0
    have hj : r[j]? = some (r[j]'(by omega)) := List.getElem?_eq_getElem (by omega)
    generalize r[j]'(by omega) = y at hj
    simp -dsimp only [↓uSeq, ↓uNext, ↓uFor, ↓uSt, ↓uStV, ↓uAu, ↓uAp, ↓uApMv, ↓uAuN, ↓uAlias, ↓uDem, ↓uBrk, ↓uCnt, ↓uNev, ↓uRet, ↓uRetN, ↓uExp, ↓uExpP, ↓uSet, ↓uSetR, ↓uIf, ↓wVar, ↓wVarV, ↓wC, ↓w1, ↓w2, ↓wT, asB, ↓wChain, ↓wNil, ↓wCons, ↓wAnd, ↓wOr, ↓wNot, ↓wAndV, ↓wOrV, ↓wNotV, ↓wIf, ↓wCallP, ↓wCallV, ↓wCa, ↓wTup, ↓wLst, ↓oNon, ↓oSom, ↓wSlice, ↓wRev, ↓vP, ↓vSh, ↓vFit, ↓vaNil, ↓vaCons, ↓vLst, ↓vTup, ↓vTup0, ↓vList, ↓vRep, ↓vSlice, ↓cSl, ↓vCallN, ↓v1, ↓vCa, ↓vIx, ↓tP, ↓vAnd, ↓vOr, ↓vNot, ↓vIf, ↓vT, ↓v2, ↓vLc, ↓gI2, ↓gI2c, ↓gLen, ↓gII, ↓gI, ↓gInt1, ↓gRep, ↓gCat, ↓gKids, ↓gIn, ↓iLst, ↓TL.iTup, ↓TL.iRng1, ↓TL.iRng2, ↓iEn, ↓iZp, ↓hName, ↓hCons, ↓hNil, ↓hTup, ↓wSl, ↓wIsi, ↓wYes, rho0, iniE, entOf, allSh, List.replicate, List.length_cons, List.length_nil, Nat.reduceAdd, Nat.reduceSub, Nat.reduceLT, Nat.reduceLeDiff, List.cons_append, List.nil_append, List.getElem?_cons_zero, List.getElem?_cons_succ, Option.bind_some, Ent.tr, Ent.own, Ent.put, setE, killA, noAl_ow, noAl_io1, noAl_no, noAl_ro, noAl_al', killJ_cons, killJ_nil0, noRo_ow, noRo_io, noRo_no, noRo_al, mem1, notIn, noRA_ow, noRA_io, noRA_no, noRA_al, Plc, demE, List.foldl_cons, List.foldl_nil, List.map_cons, List.map_nil, List.set_cons_zero, List.set_cons_succ, endsOf, ↓outsOf, Option.map_some, plSet, TL.putAt, T.put, true_and, and_true, lst_set, lst_snoc, lm_set, lm_snoc, shOnly, shE_ow0, shE_ow1, shE_io, shE_no, Option.isSome_some, reduceIte, if_true, if_false, Bool.false_eq_true, Nat.reduceEqDiff]
    refine gIx_Li hj ⟨rfl, ⟨by decide, by decide, by decide⟩, fit0, callPick_io (xs := [1, 0 - 1, 3, 10 ^ Int.toNat 9]) (by simp) (by simp) fun d hd a4 c4 => ?_⟩
    have hj2 : ixN (List.map T.int r).length (j : Int) = some j := ixN_nat (by rw [List.length_map]; omega)
    simp -dsimp only [hj2, ↓uSeq, ↓uNext, ↓uFor, ↓uSt, ↓uStV, ↓uAu, ↓uAp, ↓uApMv, ↓uAuN, ↓uAlias, ↓uDem, ↓uBrk, ↓uCnt, ↓uNev, ↓uRet, ↓uRetN, ↓uExp, ↓uExpP, ↓uSet, ↓uSetR, ↓uIf, ↓wVar, ↓wVarV, ↓wC, ↓w1, ↓w2, ↓wT, asB, ↓wChain, ↓wNil, ↓wCons, ↓wAnd, ↓wOr, ↓wNot, ↓wAndV, ↓wOrV, ↓wNotV, ↓wIf, ↓wCallP, ↓wCallV, ↓wCa, ↓wTup, ↓wLst, ↓oNon, ↓oSom, ↓wSlice, ↓wRev, ↓vP, ↓vSh, ↓vFit, ↓vaNil, ↓vaCons, ↓vLst, ↓vTup, ↓vTup0, ↓vList, ↓vRep, ↓vSlice, ↓cSl, ↓vCallN, ↓v1, ↓vCa, ↓vIx, ↓tP, ↓vAnd, ↓vOr, ↓vNot, ↓vIf, ↓vT, ↓v2, ↓vLc, ↓gI2, ↓gI2c, ↓gLen, ↓gII, ↓gI, ↓gInt1, ↓gRep, ↓gCat, ↓gKids, ↓gIn, ↓iLst, ↓TL.iTup, ↓TL.iRng1, ↓TL.iRng2, ↓iEn, ↓iZp, ↓hName, ↓hCons, ↓hNil, ↓hTup, ↓wSl, ↓wIsi, ↓wYes, rho0, iniE, entOf, allSh, List.replicate, List.length_cons, List.length_nil, Nat.reduceAdd, Nat.reduceSub, Nat.reduceLT, Nat.reduceLeDiff, List.cons_append, List.nil_append, List.getElem?_cons_zero, List.getElem?_cons_succ, Option.bind_some, Ent.tr, Ent.own, Ent.put, setE, killA, noAl_ow, noAl_io1, noAl_no, noAl_ro, noAl_al', killJ_cons, killJ_nil0, noRo_ow, noRo_io, noRo_no, noRo_al, mem1, notIn, noRA_ow, noRA_io, noRA_no, noRA_al, Plc, demE, List.foldl_cons, List.foldl_nil, List.map_cons, List.map_nil, List.set_cons_zero, List.set_cons_succ, endsOf, ↓outsOf, Option.map_some, plSet, TL.putAt, T.put, true_and, and_true, lst_set, lst_snoc, lm_set, lm_snoc, shOnly, shE_ow0, shE_ow1, shE_io, shE_no, Option.isSome_some, reduceIte, if_true, if_false, Bool.false_eq_true, Nat.reduceEqDiff]
    refine ⟨rfl, fit0, ifS (fun _ => ifS (fun q => ?_) (fun _ => ?_)) (fun _ => ?_)⟩
    · have q := of_decide_eq_true q
      have e1 : (k : Int) - 1 = ((k - 1 : Nat) : Int) := by omega
      have hr3 : plans[k - 1]? = some (plans[k - 1]'(by omega)) := List.getElem?_eq_getElem (by omega)
      have rl3 := h5 _ (List.getElem_mem (show k - 1 < plans.length by omega))
      generalize plans[k - 1]'(by omega) = r3 at hr3 rl3
      have hj3 : r3[j]? = some (r3[j]'(by omega)) := List.getElem?_eq_getElem (by omega)
      generalize r3[j]'(by omega) = y3 at hj3
      have hj4 : ixN (List.map T.int (r.set j (y + d))).length (j : Int) = some j := ixN_nat (by rw [List.length_map, List.length_set]; omega)
      rw [e1]
      refine gIx_Lm hr3 (gIx_Li hj3 ?_)
      simp -dsimp only [hj4, ↓uSeq, ↓uNext, ↓uFor, ↓uSt, ↓uStV, ↓uAu, ↓uAp, ↓uApMv, ↓uAuN, ↓uAlias, ↓uDem, ↓uBrk, ↓uCnt, ↓uNev, ↓uRet, ↓uRetN, ↓uExp, ↓uExpP, ↓uSet, ↓uSetR, ↓uIf, ↓wVar, ↓wVarV, ↓wC, ↓w1, ↓w2, ↓wT, asB, ↓wChain, ↓wNil, ↓wCons, ↓wAnd, ↓wOr, ↓wNot, ↓wAndV, ↓wOrV, ↓wNotV, ↓wIf, ↓wCallP, ↓wCallV, ↓wCa, ↓wTup, ↓wLst, ↓oNon, ↓oSom, ↓wSlice, ↓wRev, ↓vP, ↓vSh, ↓vFit, ↓vaNil, ↓vaCons, ↓vLst, ↓vTup, ↓vTup0, ↓vList, ↓vRep, ↓vSlice, ↓cSl, ↓vCallN, ↓v1, ↓vCa, ↓vIx, ↓tP, ↓vAnd, ↓vOr, ↓vNot, ↓vIf, ↓vT, ↓v2, ↓vLc, ↓gI2, ↓gI2c, ↓gLen, ↓gII, ↓gI, ↓gInt1, ↓gRep, ↓gCat, ↓gKids, ↓gIn, ↓iLst, ↓TL.iTup, ↓TL.iRng1, ↓TL.iRng2, ↓iEn, ↓iZp, ↓hName, ↓hCons, ↓hNil, ↓hTup, ↓wSl, ↓wIsi, ↓wYes, rho0, iniE, entOf, allSh, List.replicate, List.length_cons, List.length_nil, Nat.reduceAdd, Nat.reduceSub, Nat.reduceLT, Nat.reduceLeDiff, List.cons_append, List.nil_append, List.getElem?_cons_zero, List.getElem?_cons_succ, Option.bind_some, Ent.tr, Ent.own, Ent.put, setE, killA, noAl_ow, noAl_io1, noAl_no, noAl_ro, noAl_al', killJ_cons, killJ_nil0, noRo_ow, noRo_io, noRo_no, noRo_al, mem1, notIn, noRA_ow, noRA_io, noRA_no, noRA_al, Plc, demE, List.foldl_cons, List.foldl_nil, List.map_cons, List.map_nil, List.set_cons_zero, List.set_cons_succ, endsOf, ↓outsOf, Option.map_some, plSet, TL.putAt, T.put, true_and, and_true, lst_set, lst_snoc, lm_set, lm_snoc, shOnly, shE_ow0, shE_ow1, shE_io, shE_no, Option.isSome_some, reduceIte, if_true, if_false, Bool.false_eq_true, Nat.reduceEqDiff]
      exact ⟨rfl, fit0, fit0, h _ _ _ (by rw [List.length_set, List.length_set]; omega) fun q hq => by
        rcases List.mem_or_eq_of_mem_set hq with z | rfl
        · rcases List.mem_or_eq_of_mem_set z with z | rfl
          · rw [h5 q z]; omega
          · rw [List.length_set]; omega
        · rw [List.length_set, List.length_set]; omega⟩
    · exact ⟨fit0, h _ _ _ (by rw [List.length_set]; omega) fun q hq => by
        rcases List.mem_or_eq_of_mem_set hq with z | rfl
        · rw [h5 q z]; omega
        · rw [List.length_set]; omega⟩
    · exact ⟨fit0, h _ _ _ (by rw [List.length_set]; omega) fun q hq => by
        rcases List.mem_or_eq_of_mem_set hq with z | rfl
        · rw [h5 q z]; omega
        · rw [List.length_set]; omega⟩
end
end K94
set_option Elab.async false
set_option linter.all false
set_option maxRecDepth 100000
namespace K94
open PySem PySem.Spec PyProof.Rows L2 TL
/-! ### the plain law -/
def LeL : List Int → List Int → Prop
  | [], [] => True
  | x :: xs, y :: ys => x ≤ y ∧ LeL xs ys
  | _, _ => False
theorem LeL.refl : ∀ xs : List Int, LeL xs xs
  | [] => trivial
  | x :: xs => ⟨Int.le_refl x, LeL.refl xs⟩
theorem LeL.len : ∀ {xs ys : List Int}, LeL xs ys → xs.length = ys.length
  | [], [], _ => rfl
  | x :: xs, y :: ys, h => by rw [List.length_cons, List.length_cons, LeL.len h.2]
  | [], _ :: _, h => h.elim
  | _ :: _, [], h => h.elim
theorem LeL.sum : ∀ {xs ys : List Int}, LeL xs ys → xs.sum ≤ ys.sum ∧ (xs ≠ ys → xs.sum + 1 ≤ ys.sum)
  | [], [], _ => ⟨Int.le_refl _, fun h => absurd rfl h⟩
  | x :: xs, y :: ys, h => by
    obtain ⟨a, b⟩ := LeL.sum h.2
    have h1 := h.1
    rw [List.sum_cons, List.sum_cons]
    refine ⟨by omega, fun ne => ?_⟩
    by_cases q : xs = ys
    · have : x ≠ y := fun e => ne (by rw [e, q])
      omega
    · have := b q
      omega
  | [], _ :: _, h => h.elim
  | _ :: _, [], h => h.elim
theorem fill_mono : ∀ (cl : List Int) {lv lv' l l' : Int}, (lv = lv' ∧ l ≤ l') ∨ lv + 1 ≤ lv' → LeL (fill cl lv l) (fill cl lv' l')
  | [], _, _, _, _, _ => trivial
  | c :: cl, lv, lv', l, l', h => by
    unfold fill
    by_cases q : l > 0 ∧ c > lv <;> by_cases q2 : l' > 0 ∧ c > lv'
    · rw [if_pos q, if_pos q2]
      exact ⟨by rcases h with ⟨h, _⟩ | h <;> omega, fill_mono cl (by rcases h with ⟨h1, h2⟩ | h; exact .inl ⟨h1, by omega⟩; exact .inr h)⟩
    · rw [if_pos q, if_neg q2]
      exact ⟨by rcases h with ⟨h, _⟩ | h <;> omega, fill_mono cl (by rcases h with ⟨h1, h2⟩ | h; exact .inl ⟨h1, by omega⟩; exact .inr h)⟩
    · rw [if_neg q, if_pos q2]
      exact ⟨by rcases h with ⟨h, _⟩ | h <;> omega, fill_mono cl (by rcases h with ⟨h1, h2⟩ | h; exact .inl ⟨h1, by omega⟩; exact .inr h)⟩
    · rw [if_neg q, if_neg q2]
      exact ⟨by rcases h with ⟨h, _⟩ | h <;> omega, fill_mono cl (by rcases h with ⟨h1, h2⟩ | h; exact .inl ⟨h1, by omega⟩; exact .inr h)⟩
theorem lvlN_le {cl : List Int} {c : Int} : ∀ n : Nat, 0 ≤ lvlN cl c n ∧ lvlN cl c n ≤ n
  | 0 => ⟨Int.le_refl _, Int.le_refl _⟩
  | n + 1 => by
    obtain ⟨a, b⟩ := @lvlN_le cl c n
    unfold lvlN
    split <;> constructor <;> omega
theorem lvlN_mono {cl : List Int} {c c' : Int} (h : c ≤ c') : ∀ n : Nat, lvlN cl c n ≤ lvlN cl c' n
  | 0 => Int.le_refl _
  | n + 1 => by
    have ih := lvlN_mono (cl := cl) h n
    have := (@lvlN_le cl c n).2
    unfold lvlN
    by_cases q : capS cl ((n : Int) + 1) ≤ c
    · rw [if_pos q, if_pos (Int.le_trans q h)]; exact Int.le_refl _
    · rw [if_neg q]
      split <;> omega
theorem lawLevel_mono {cl : List Int} {c c' : Int} (h : c ≤ c') : LeL (lawLevel cl c) (lawLevel cl c') := by
  unfold lawLevel
  have := lvlN_mono (cl := cl) h 41
  by_cases e : lvlN cl c 41 = lvlN cl c' 41
  · rw [e]
    exact fill_mono cl (.inl ⟨rfl, by omega⟩)
  · exact fill_mono cl (.inr (by omega))
theorem addV_mono : ∀ {a b x y : List Int}, LeL a b → LeL x y → LeL (addV a x) (addV b y)
  | [], [], _, _, _, _ => by unfold addV; simp [LeL]
  | _ :: _, _ :: _, [], [], _, _ => by unfold addV; simp [LeL]
  | p :: a, q :: b, r :: x, s :: y, h, h2 => by
    have h1 := h.1
    have h3 := h2.1
    exact ⟨by show p + r ≤ q + s; omega, addV_mono h.2 h2.2⟩
  | [], _ :: _, _, _, h, _ => h.elim
  | _ :: _, [], _, _, h, _ => h.elim
  | _ :: _, _ :: _, [], _ :: _, _, h => h.elim
  | _ :: _, _ :: _, _ :: _, [], _, h => h.elim
theorem haveF_mono : ∀ {m : List (List Int)} {p p' a a' : List Int}, LeL p p' → LeL a a' → LeL (haveF m p a) (haveF m p' a')
  | [], p, p', a, a', _, h => by
    have e : ∀ (p a : List Int), haveF [] p a = a := fun p a => by cases p <;> rfl
    rw [e, e]; exact h
  | r :: m, [], [], a, a', _, h => h
  | r :: m, c :: p, c' :: p', a, a', h, h2 => by
    unfold haveF
    exact haveF_mono h.2 (addV_mono h2 (lawLevel_mono h.1))
  | _ :: _, [], _ :: _, _, _, h, _ => h.elim
  | _ :: _, _ :: _, [], _, _, h, _ => h.elim
theorem zip_mono : ∀ {m : List (List Int)} {a a' : List Int}, LeL a a' → LeL (List.zipWith (fun row h => if h < row.sum then h else row.sum) m a) (List.zipWith (fun row h => if h < row.sum then h else row.sum) m a')
  | [], a, a', _ => by simp [LeL]
  | r :: m, [], [], _ => by simp [LeL]
  | r :: m, x :: a, y :: a', h => by
    have h1 := h.1
    refine ⟨?_, zip_mono h.2⟩
    show (if x < r.sum then x else r.sum) ≤ (if y < r.sum then y else r.sum)
    split <;> split <;> omega
  | _ :: _, [], _ :: _, h => h.elim
  | _ :: _, _ :: _, [], h => h.elim
theorem afterF_mono {m : List (List Int)} {own p p' : List Int} (h : LeL p p') : LeL (afterF m own p) (afterF m own p') := zip_mono (haveF_mono h (LeL.refl own))
theorem afterF_top {own p : List Int} : ∀ {m : List (List Int)} {h : List Int}, m.length = h.length → LeL (List.zipWith (fun row h => if h < row.sum then h else row.sum) m h) (owedF m)
  | [], _, _ => by simp [LeL, owedF]
  | r :: m, [], h => by simp at h
  | r :: m, x :: a, h => by
    refine ⟨?_, afterF_top (own := own) (p := p) (by simpa using h)⟩
    show (if x < r.sum then x else r.sum) ≤ r.sum
    split <;> omega
/-! signs -/
theorem fill_nn : ∀ {cl : List Int} {lv l : Int}, (∀ x ∈ cl, 0 ≤ x) → 0 ≤ lv → ∀ x ∈ fill cl lv l, 0 ≤ x
  | [], _, _, _, _, x, h => nomatch h
  | c :: cl, lv, l, hc, hl, x, h => by
    have h0 := hc c List.mem_cons_self
    unfold fill at h
    split at h
    · rcases List.mem_cons.mp h with rfl | h
      · omega
      · exact fill_nn (fun y hy => hc y (List.mem_cons_of_mem _ hy)) hl x h
    · rcases List.mem_cons.mp h with rfl | h
      · omega
      · exact fill_nn (fun y hy => hc y (List.mem_cons_of_mem _ hy)) hl x h
theorem addV_nn : ∀ {a b : List Int}, (∀ x ∈ a, 0 ≤ x) → (∀ x ∈ b, 0 ≤ x) → ∀ x ∈ addV a b, 0 ≤ x
  | [], _, _, _, x, h => by simp [addV] at h
  | _ :: _, [], _, _, x, h => by simp [addV] at h
  | p :: a, q :: b, h1, h2, x, h => by
    have e : addV (p :: a) (q :: b) = (p + q) :: addV a b := rfl
    rw [e] at h
    have := h1 p List.mem_cons_self
    have := h2 q List.mem_cons_self
    rcases List.mem_cons.mp h with rfl | h
    · omega
    · exact addV_nn (fun y hy => h1 y (List.mem_cons_of_mem _ hy)) (fun y hy => h2 y (List.mem_cons_of_mem _ hy)) x h
theorem haveF_nn : ∀ {m : List (List Int)} {p a : List Int}, (∀ r ∈ m, ∀ x ∈ r, 0 ≤ x) → (∀ x ∈ a, 0 ≤ x) → ∀ x ∈ haveF m p a, 0 ≤ x
  | [], p, a, _, h => by
    have e : haveF [] p a = a := by cases p <;> rfl
    rw [e]; exact h
  | r :: m, [], a, _, h => h
  | r :: m, c :: p, a, hm, h => by
    unfold haveF
    exact haveF_nn (fun q hq => hm q (List.mem_cons_of_mem _ hq)) (addV_nn h (fill_nn (hm r List.mem_cons_self) (lvlN_le 41).1))
theorem sum_nn : ∀ {r : List Int}, (∀ x ∈ r, 0 ≤ x) → 0 ≤ r.sum
  | [], _ => Int.le_refl _
  | x :: r, h => by
    have := h x List.mem_cons_self
    have := sum_nn fun y hy => h y (List.mem_cons_of_mem _ hy)
    rw [List.sum_cons]; omega
theorem zip_rng : ∀ {m : List (List Int)} {a : List Int}, (∀ r ∈ m, 0 ≤ r.sum ∧ r.sum ≤ 200) → (∀ x ∈ a, 0 ≤ x) → ∀ x ∈ List.zipWith (fun row h => if h < row.sum then h else row.sum) m a, 0 ≤ x ∧ x ≤ 200
  | [], _, _, _, x, h => by simp at h
  | _ :: _, [], _, _, x, h => by simp at h
  | r :: m, y :: a, hm, ha, x, h => by
    have h1 := hm r List.mem_cons_self
    have h2 := ha y List.mem_cons_self
    rw [List.zipWith_cons_cons] at h
    rcases List.mem_cons.mp h with rfl | h
    · split <;> omega
    · exact zip_rng (fun q hq => hm q (List.mem_cons_of_mem _ hq)) (fun q hq => ha q (List.mem_cons_of_mem _ hq)) x h
theorem sum_le : ∀ {xs : List Int} {b : Int}, (∀ x ∈ xs, x ≤ b) → xs.sum ≤ b * xs.length
  | [], b, _ => by simp
  | x :: xs, b, h => by
    have h1 := h x List.mem_cons_self
    have h2 := sum_le fun y hy => h y (List.mem_cons_of_mem _ hy)
    rw [List.sum_cons, List.length_cons]
    have : b * ((xs.length + 1 : Nat) : Int) = b * (xs.length : Int) + b := by rw [Int.natCast_add, Int.mul_add]; simp
    omega
/-! where it stands still -/
theorem least_of {P : Nat → Prop} : ∀ N : Nat, (∃ i, i < N ∧ P i) → ∃ d, d < N ∧ P d ∧ ∀ j, j < d → ¬ P j
  | 0, ⟨i, h, _⟩ => absurd h (Nat.not_lt_zero i)
  | N + 1, ⟨i, h, hp⟩ => by
    by_cases q : ∃ i, i < N ∧ P i
    · obtain ⟨d, h1, h2, h3⟩ := least_of N q
      exact ⟨d, by omega, h2, h3⟩
    · refine ⟨i, h, hp, fun j hj pj => q ⟨j, by omega, pj⟩⟩
structure Rng (m : List (List Int)) (own : List Int) : Prop where
  k : Okm m own
  o : ∀ x ∈ own, 0 ≤ x
theorem after_ok {m : List (List Int)} {own p : List Int} (h : Rng m own) : (afterF m own p).length = own.length ∧ ∀ x ∈ afterF m own p, 0 ≤ x ∧ x ≤ 200 := by
  have hrl : ∀ r ∈ m, r.length = own.length := fun r hr => (h.k.row r hr).1
  have hl := haveF_len (m := m) (p := p) hrl
  refine ⟨?_, ?_⟩
  · unfold afterF
    rw [List.length_zipWith, hl, h.k.len]; omega
  · refine zip_rng (fun r hr => ⟨sum_nn fun x hx => ((h.k.row r hr).2 x hx).1, h.k.sm r hr⟩) (haveF_nn (fun r hr x hx => ((h.k.row r hr).2 x hx).1) h.o)
theorem it_ok {m : List (List Int)} {own p : List Int} (h : Rng m own) (hp : p.length = own.length ∧ ∀ x ∈ p, 0 ≤ x ∧ x ≤ 200) : ∀ i, (itF m own p i).length = own.length ∧ ∀ x ∈ itF m own p i, 0 ≤ x ∧ x ≤ 200
  | 0 => hp
  | i + 1 => after_ok h
theorem stop_of {m : List (List Int)} {own p : List Int} (h : Rng m own) (hp : p.length = own.length ∧ ∀ x ∈ p, 0 ≤ x ∧ x ≤ 200) (hmono : (∀ i, LeL (itF m own p (i + 1)) (itF m own p i)) ∨ ∀ i, LeL (itF m own p i) (itF m own p (i + 1))) : ∃ d, Stop m own p d := by
  have bnd : ∀ i, 0 ≤ (itF m own p i).sum ∧ (itF m own p i).sum ≤ 1200 := fun i => by
    obtain ⟨a, b⟩ := it_ok h hp i
    have n6 := h.k.n6
    refine ⟨sum_nn fun x hx => (b x hx).1, ?_⟩
    have := sum_le fun x hx => (b x hx).2
    rw [a] at this
    omega
  have ex : ∃ i, i < 1300 ∧ itF m own p (i + 1) = itF m own p i := by
    by_cases q : ∃ i, i < 1300 ∧ itF m own p (i + 1) = itF m own p i
    · exact q
    · exfalso
      have ne : ∀ i, i < 1300 → itF m own p (i + 1) ≠ itF m own p i := fun i hi e => q ⟨i, hi, e⟩
      rcases hmono with hm | hm
      · have key : ∀ i : Nat, i ≤ 1300 → (itF m own p i).sum + i ≤ (itF m own p 0).sum := fun i => by
          induction i with
          | zero => intro _; simp
          | succ i ih =>
            intro hi
            have a := ih (by omega)
            have b := (hm i).sum.2 (ne i (by omega))
            omega
        have a := key 1300 (by omega)
        have b := bnd 0
        have c := bnd 1300
        omega
      · have key : ∀ i : Nat, i ≤ 1300 → (itF m own p 0).sum + i ≤ (itF m own p i).sum := fun i => by
          induction i with
          | zero => intro _; simp
          | succ i ih =>
            intro hi
            have a := ih (by omega)
            have b := (hm i).sum.2 (fun e => ne i (by omega) e.symm)
            omega
        have a := key 1300 (by omega)
        have b := bnd 0
        have c := bnd 1300
        omega
  obtain ⟨d, h1, h2, h3⟩ := least_of 1300 ex
  exact ⟨d, h1, fun i hi => h3 i hi, h2⟩
theorem okall_of {m : List (List Int)} {own p : List Int} (h : Rng m own) (hp : p.length = own.length ∧ ∀ x ∈ p, 0 ≤ x ∧ x ≤ 200) (hmono : (∀ i, LeL (itF m own p (i + 1)) (itF m own p i)) ∨ ∀ i, LeL (itF m own p i) (itF m own p (i + 1))) : ∃ d, Okall m own p d := by
  obtain ⟨d, hd⟩ := stop_of h hp hmono
  refine ⟨d, h.k, h.o, fun i => ?_, hd⟩
  obtain ⟨a, b⟩ := it_ok h hp i
  exact ⟨a, fun x hx => by have := b x hx; omega⟩
theorem okall_owed {m : List (List Int)} {own : List Int} (hm : Okm m own) (ho : ∀ x ∈ own, 0 ≤ x) : ∃ d, Okall m own (owedF m) d := by
  have h : Rng m own := ⟨hm, ho⟩
  have hrl : ∀ r ∈ m, r.length = own.length := fun r hr => (hm.row r hr).1
  refine okall_of h ⟨by unfold owedF; rw [List.length_map, hm.len], fun x hx => ?_⟩ (.inl fun i => ?_)
  · obtain ⟨r, hr, rfl⟩ := List.mem_map.mp hx
    exact ⟨sum_nn fun x hx => ((hm.row r hr).2 x hx).1, hm.sm r hr⟩
  · induction i with
    | zero => exact afterF_top (own := own) (p := own) (by rw [haveF_len hrl, hm.len])
    | succ i ih => exact afterF_mono ih
theorem zero_le : ∀ {xs : List Int} {n : Nat}, xs.length = n → (∀ x ∈ xs, 0 ≤ x) → LeL (List.replicate n 0) xs
  | [], n, h, _ => by
    subst h
    exact trivial
  | x :: xs, n, h, hx => by
    subst h
    rw [List.length_cons, List.replicate_succ]
    exact ⟨hx x List.mem_cons_self, zero_le rfl fun y hy => hx y (List.mem_cons_of_mem _ hy)⟩
theorem okall_zero {m : List (List Int)} {own : List Int} (hm : Okm m own) (ho : ∀ x ∈ own, 0 ≤ x) : ∃ d, Okall m own (List.replicate own.length 0) d := by
  have h : Rng m own := ⟨hm, ho⟩
  refine okall_of h ⟨List.length_replicate, fun x hx => by rw [List.eq_of_mem_replicate hx]; omega⟩ (.inr fun i => ?_)
  induction i with
  | zero => exact zero_le (after_ok h).1 fun x hx => ((after_ok h).2 x hx).1
  | succ i ih => exact afterF_mono ih
theorem sum_dg : ∀ {r : List Int} {i : Nat}, r[i]? = some 0 → (∀ x ∈ r, x ≤ 40) → r.sum + 40 ≤ 40 * r.length
  | [], _, h, _ => by simp at h
  | x :: r, 0, h, hx => by
    have e : x = 0 := Option.some.inj h
    subst e
    have := sum_le (b := 40) fun y hy => hx y (List.mem_cons_of_mem _ hy)
    rw [List.sum_cons, List.length_cons]
    omega
  | x :: r, i + 1, h, hx => by
    have h1 := hx x List.mem_cons_self
    have := sum_dg (r := r) (i := i) (by simpa using h) fun y hy => hx y (List.mem_cons_of_mem _ hy)
    rw [List.sum_cons, List.length_cons]
    omega
end K94
set_option Elab.async false
set_option linter.all false
set_option maxRecDepth 100000
namespace K94
open PySem PySem.Spec PyProof.Rows L2 TL
theorem callDraw_ow1 {R : Nat → T → List Ent → Prop} {u : KDep R} {a b c m : Int} {x : T} {e : Ent} {ρ : List Ent} (h0 : 0 < m) (h1 : m < 1073741824) (h : ∀ v a' c', 0 ≤ v → v < m → R 0 (.int v) (noRo [1] e :: .ow 1 (Li [a', b, c']) :: killJ [1] ρ)) :
    callAt [.io 1, .sh] [.sl 1, .tv 0] W__law_draw R u [x, .int m] (e :: .ow 1 (Li [a, b, c]) :: ρ) := by
  have e1 : inT (e :: .ow 1 (Li [a, b, c]) :: ρ) [.io 1, .sh] [.sl 1, .tv 0] [x, .int m] = some [Li [a, b, c], .int m] := by simp [inT, Ent.own]
  unfold callAt
  rw [e1]
  refine ⟨a, b, c, m, rfl, h0, h1, fun v a' c' h2 h3 => ?_⟩
  show R 0 (.int v) (putL [(1, Li [a', b, c'])] 0 (noRo [1] e :: .ow 1 (Li [a, b, c]) :: killJ [1] ρ))
  have e2 : putL [(1, Li [a', b, c'])] 0 (noRo [1] e :: .ow 1 (Li [a, b, c]) :: killJ [1] ρ) = noRo [1] e :: .ow 1 (Li [a', b, c']) :: killJ [1] ρ := by
    rw [putL, putL, putL_none fun i hi => ?_]
    · rfl
    · show (match i == 1 with | true => some _ | false => List.lookup i []) = none
      rw [show (i == 1) = false from beq_eq_false_iff_ne.mpr (by omega)]; rfl
  rw [e2]
  exact h v a' c' h2 h3
theorem callDebts {R : Nat → T → List Ent → Prop} {u : KDep R} {a b c : Int} {n : Nat} {ρ : List Ent} (h0 : 2 ≤ n) (h1 : n ≤ 6) (h : ∀ m, Okr m n → R 2 (Lm m) (killJ [] ρ)) :
    callAt [.io 1, .sh] [.tv 1, .tv 0] W__law_debts R u [Li [a, b, c], .int n] ρ := by
  have e1 : inT ρ [.io 1, .sh] [.tv 1, .tv 0] [Li [a, b, c], .int n] = some [Li [a, b, c], .int n] := by simp [inT]
  unfold callAt
  rw [e1]
  refine ⟨a, b, c, n, rfl, h0, h1, fun m a' c' hm => ?_⟩
  show R 2 (Lm m) (putL [] 0 (killJ [] ρ))
  rw [putL_e]
  exact h m hm
theorem callOwns {R : Nat → T → List Ent → Prop} {u : KDep R} {a b c : Int} {n : Nat} {ρ : List Ent} (h0 : 2 ≤ n) (h1 : n ≤ 6) (h : ∀ xs : List Int, xs.length = n → (∀ x ∈ xs, 0 ≤ x ∧ x ≤ 1000) → R 1 (Li xs) (killJ [] ρ)) :
    callAt [.io 1, .sh] [.tv 1, .tv 0] W__law_owns R u [Li [a, b, c], .int n] ρ := by
  have e1 : inT ρ [.io 1, .sh] [.tv 1, .tv 0] [Li [a, b, c], .int n] = some [Li [a, b, c], .int n] := by simp [inT]
  unfold callAt
  rw [e1]
  refine ⟨a, b, c, n, rfl, h0, h1, fun m a' c' hm hx => ?_⟩
  show R 1 (Li m) (putL [] 0 (killJ [] ρ))
  rw [putL_e]
  exact h m hm hx
theorem callPlans {R : Nat → T → List Ent → Prop} {u : KDep R} {m : List (List Int)} {own p : List Int} {d : Nat} {ρ : List Ent} (hm : Okall m own p d) (h : R 1 (Lm (planF m own p d)) (killJ [] ρ)) :
    callAt [.sh, .sh, .sh] [.tv 0, .tv 0, .tv 0] W__law_plans R u [Lm m, Li own, Li p] ρ := by
  have e1 : inT ρ [.sh, .sh, .sh] [.tv 0, .tv 0, .tv 0] [Lm m, Li own, Li p] = some [Lm m, Li own, Li p] := by simp [inT]
  unfold callAt
  rw [e1]
  refine ⟨m, own, p, d, rfl, hm, ?_⟩
  show R 1 _ (putL [] 0 (killJ [] ρ))
  rw [putL_e]
  exact h
theorem callOther {R : Nat → T → List Ent → Prop} {u : KDep R} {a b c : Int} {plans up : List (List Int)} {nn : Nat} {ρ : List Ent} (h0 : 0 < plans.length) (h1 : plans.length ≤ 1300) (h2 : up.length ≤ 1300) (h3 : 0 < nn) (h4 : nn ≤ 6) (h5 : ∀ r ∈ plans, r.length = nn) (h6 : ∀ r ∈ up, r.length = nn)
    (h : ∀ o : List (List Int), o.length ≤ 3000 → (∀ r ∈ o, r.length ≤ 7) → R 0 (Lm o) (killJ [] ρ)) :
    callAt [.io 1, .sh, .sh] [.tv 1, .tv 0, .tv 0] W__law_other_plans R u [Li [a, b, c], Lm plans, Lm up] ρ := by
  have e1 : inT ρ [.io 1, .sh, .sh] [.tv 1, .tv 0, .tv 0] [Li [a, b, c], Lm plans, Lm up] = some [Li [a, b, c], Lm plans, Lm up] := by simp [inT]
  unfold callAt
  rw [e1]
  refine ⟨a, b, c, plans, up, nn, rfl, h0, h1, h2, h3, h4, h5, h6, fun o a' c' ho ho2 => ?_⟩
  show R 0 (Lm o) (putL [] 0 (killJ [] ρ))
  rw [putL_e]
  exact h o ho ho2
theorem gh0 {a b : T} {R : T → Prop} : gIx (T.lst [a, b]) (.int 0) R = R a := rfl
theorem gh1 {a b : T} {R : T → Prop} : gIx (T.lst [a, b]) (.int 1) R = R b := rfl
theorem okd_pair {a b : T} {n : Nat} (ha : a.okd n = true) (hb : b.okd n = true) : (T.lst [a, b]).okd (n + 1) = true := by
  rw [T.okd, T.okds, T.okds, T.okds, ha, hb]; rfl
theorem sml_pair {a b : T} (ha : smlT a = true) (hb : smlT b = true) : smlT (T.lst [a, b]) = true := by
  rw [smlT, smlTs, smlTs, smlTs, ha, hb]; rfl
theorem sml_Li {xs : List Int} (h : xs.length ≤ 1000000) : smlT (Li xs) = true := by
  rw [smlT, List.length_map, decide_eq_true h, Bool.true_and]
  refine smlTs_iff.mpr fun t ht => ?_
  obtain ⟨x, _, rfl⟩ := List.mem_map.mp ht
  rfl
theorem sml_Lm {xs : List (List Int)} (h : xs.length ≤ 1000000) (h2 : ∀ x ∈ xs, x.length ≤ 1000000) : smlT (Lm xs) = true := by
  rw [smlT, List.length_map, decide_eq_true h, Bool.true_and]
  refine smlTs_iff.mpr fun t ht => ?_
  obtain ⟨x, hx, rfl⟩ := List.mem_map.mp ht
  exact sml_Li (h2 x hx)
section
variable {P : Program} {w : World} {K : PySem.W.Frag} {mg : Str → Option Value} {base : Heap}
def W_law : FnT := fun ts R => ∃ ns : List Int, ts = [.scr ns] ∧ R 0 (.bl true) []
set_option maxHeartbeats 4000000 in
theorem ok_law {k : Nat} (G : Gs K mg) : FnOk P w K mg base CX0 (k + 7) G.g_law.f G.g_law.d ["script"] (spT K (allSh 1) W_law) := by
  refine fnT (k := k + 6) G.g_law.F sc_law rfl (fun X cdv A outer s H E hX hr => ?_)
  subst hX
  refine ⟨_, (ts_cons (ts_set 1 sc_law.nd rfl (.inl rfl) (tv_callN (ok__law_pool (k := k + 5) G) hr (by rfl) G.g__law_pool.g G.g__law_pool.F.kp G.g__law_pool.b (tpa_cons (tp_var 0) (tpa_cons tp_int (tpa_cons tp_int tpa_nil)))))
      (ts_cons (ts_set 2 sc_law.nd rfl (.inl rfl) (tv_op op_add opT_int (tv_p tp_int) (tv_call (ok__law_draw (k := k + 4) G) hr (by rfl) G.g__law_draw.g G.g__law_draw.F.kp G.g__law_draw.b (tca_sl 1 (tca_tv 0 (tv_p tp_int) tca_nil)))))
      (ts_cons (ts_set 3 sc_law.nd rfl (.inl rfl) (tv_call (ok__law_debts (k := k + 2) G) hr (by rfl) G.g__law_debts.g G.g__law_debts.F.kp G.g__law_debts.b (tca_tv 1 (tv_callN (ok__law_pool (k := k + 5) G) hr (by rfl) G.g__law_pool.g G.g__law_pool.F.kp G.g__law_pool.b (tpa_cons (tp_var 0) (tpa_cons tp_int (tpa_cons tp_int tpa_nil)))) (tca_tv 0 (tv_p (tp_var 2)) tca_nil))))
      (ts_cons (ts_set 4 sc_law.nd rfl (.inl rfl) (tv_call (ok__law_owns (k := k + 2) G) hr (by rfl) G.g__law_owns.g G.g__law_owns.F.kp G.g__law_owns.b (tca_tv 1 (tv_callN (ok__law_pool (k := k + 5) G) hr (by rfl) G.g__law_pool.g G.g__law_pool.F.kp G.g__law_pool.b (tpa_cons (tp_var 0) (tpa_cons tp_int (tpa_cons tp_int tpa_nil)))) (tca_tv 0 (tv_p (tp_var 2)) tca_nil))))
      (ts_cons (ts1_dem [3, 4] (ts_setLc (i := 5) (hc := rfl) (hN := sc_law.nd) (hy := rfl) (hyl := rfl) (hsw := sw_true rfl rfl rfl (by decide +kernel)) (own := [("row", 10)]) (k := 0) (js := [10]) (hi := (ti_lst (tv_var 3))) (ok := (blkOk_by (N := ["script", "pool", "size", "matrix", "own", "owed", "plans", "up", "handed", "told", "row", "paid", "k", "less", "other", "mine", "held", "coins"]) (sc := defScope s_law) (by decide +kernel))) (hg := fun _ _ _ _ _ => (tg_name 10 sc_law.nd rfl (.inl rfl))) (ht := fun _ _ _ _ _ => tvts_nil) (he := fun _ _ _ _ _ => (tv_p (tp_callB (cr_sum rfl) caT_sum (by rfl) G.z_sum (by decide +kernel) (tpa_cons (tp_var 10) tpa_nil)))) (hj := by decide)))
      (ts_cons (ts1_dem [5] (ts_set 6 sc_law.nd rfl (.inl rfl) (tv_call (ok__law_plans (k := k + 3) G) hr (by rfl) G.g__law_plans.g G.g__law_plans.F.kp G.g__law_plans.b (tca_tv 0 (tv_var 3) (tca_tv 0 (tv_var 4) (tca_tv 0 (tv_var 5) tca_nil))))))
      (ts_cons (ts_set 7 sc_law.nd rfl (.inl rfl) (tv_call (ok__law_plans (k := k + 3) G) hr (by rfl) G.g__law_plans.g G.g__law_plans.F.kp G.g__law_plans.b (tca_tv 0 (tv_var 3) (tca_tv 0 (tv_var 4) (tca_tv 0 (tv_sh (tp_op op_rep opT_rep (tp_lst (tpa_cons tp_int tpa_nil)) (tp_var 2))) tca_nil)))))
      (ts_cons (ts1_dem [6, 7] (ts_set 8 sc_law.nd rfl (.inl rfl) (tv_sh (tp_lst (tpa_cons (tp_call (ok__law_copied (k := k + 5) G) hr (by rfl) G.g__law_copied.g G.g__law_copied.F.kp G.g__law_copied.b (tpa_cons (tp_var 3) tpa_nil)) (tpa_cons (tp_callTy call_list_of caT_list (by rfl) G.z_list (by decide +kernel) (tpa_cons (tp_var 4) tpa_nil)) tpa_nil))))))
      (ts_cons (ts_set 9 sc_law.nd rfl (.inl rfl) (tv_callN (ok_stages (k := k + 1) G) hr (by rfl) G.g_stages.g G.g_stages.F.kp G.g_stages.b (tpa_cons (tp_ix (tp_var 8) tp_int (fun _ _ => rfl)) (tpa_cons (tp_ix (tp_var 8) tp_int (fun _ _ => rfl)) tpa_nil))))
      (ts_cons (ts_if (tvt_p (tpt_not (tpt_val (tp_call (ok__law_same 4 (k := k + 0) G) hr (by rfl) G.g__law_same.g G.g__law_same.F.kp G.g__law_same.b (tpa_cons (tp_lst (tpa_cons (tp_var 9) (tpa_cons (tp_var 8) tpa_nil))) (tpa_cons (tp_lst (tpa_cons (tp_var 6) (tpa_cons (tp_lst (tpa_cons (tp_var 3) (tpa_cons (tp_var 4) tpa_nil))) tpa_nil))) tpa_nil)))))) (ts_one (ts_ret (tv_p tp_bl))) ts_nil)
      (ts_cons (ts_forSl 9 10 PassesOwn.never rfl sc_law.nd rfl (.inl rfl) (ts_one (ts_store 10 (tv_p (tp_op op_add opT_int (tp_ix (tp_var 10) tp_int (fun _ _ => rfl)) tp_int)) tp_int)))
      (ts_cons (ts_app 9 (tv_rep (tp_lst (tpa_cons tp_int tpa_nil)) (tp_var 2)))
      (ts_cons (ts_set 11 sc_law.nd rfl (.inl rfl) (tv_callN (ok_clearing (k := k + 0) G) hr (by rfl) G.g_clearing.g G.g_clearing.F.kp G.g_clearing.b (tpa_cons (tp_ix (tp_var 8) tp_int (fun _ _ => rfl)) (tpa_cons (tp_ix (tp_var 8) tp_int (fun _ _ => rfl)) tpa_nil))))
      (ts_cons (ts_if (tvt_p (tpt_not (tpt_val (tp_call (ok__law_same 4 (k := k + 0) G) hr (by rfl) G.g__law_same.g G.g__law_same.F.kp G.g__law_same.b (tpa_cons (tp_lst (tpa_cons (tp_var 11) (tpa_cons (tp_var 8) tpa_nil))) (tpa_cons (tp_lst (tpa_cons (tp_ix (tp_var 6) (tp_un un_neg unT_int tp_int) (fun _ _ => rfl)) (tpa_cons (tp_lst (tpa_cons (tp_var 3) (tpa_cons (tp_var 4) tpa_nil))) tpa_nil))) tpa_nil)))))) (ts_one (ts_ret (tv_p tp_bl))) ts_nil)
      (ts_cons (ts_store 11 (tv_p (tp_op op_add opT_int (tp_ix (tp_var 11) tp_int (fun _ _ => rfl)) tp_int)) tp_int)
      (ts_cons (ts_if (tvt_p (tpt_not (tpt_val (tp_call (ok__law_same 4 (k := k + 0) G) hr (by rfl) G.g__law_same.g G.g__law_same.F.kp G.g__law_same.b (tpa_cons (tp_lst (tpa_cons (tp_call (ok_stages (k := k + 1) G) hr (by rfl) G.g_stages.g G.g_stages.F.kp G.g_stages.b (tpa_cons (tp_ix (tp_var 8) tp_int (fun _ _ => rfl)) (tpa_cons (tp_ix (tp_var 8) tp_int (fun _ _ => rfl)) tpa_nil))) (tpa_cons (tp_call (ok_clearing (k := k + 0) G) hr (by rfl) G.g_clearing.g G.g_clearing.F.kp G.g_clearing.b (tpa_cons (tp_ix (tp_var 8) tp_int (fun _ _ => rfl)) (tpa_cons (tp_ix (tp_var 8) tp_int (fun _ _ => rfl)) tpa_nil))) tpa_nil))) (tpa_cons (tp_lst (tpa_cons (tp_var 6) (tpa_cons (tp_ix (tp_var 6) (tp_un un_neg unT_int tp_int) (fun _ _ => rfl)) tpa_nil))) tpa_nil)))))) (ts_one (ts_ret (tv_p tp_bl))) ts_nil)
      (ts_cons (ts_if (tvt_p (tpt_not (tpt_val (tp_call (ok__law_same 4 (k := k + 0) G) hr (by rfl) G.g__law_same.g G.g__law_same.F.kp G.g__law_same.b (tpa_cons (tp_call (ok_shows_clearing (k := k + 0) G) hr (by rfl) G.g_shows_clearing.g G.g_shows_clearing.F.kp G.g_shows_clearing.b (tpa_cons (tp_ix (tp_var 8) tp_int (fun _ _ => rfl)) (tpa_cons (tp_ix (tp_var 8) tp_int (fun _ _ => rfl)) (tpa_cons (tp_call (ok__law_copied (k := k + 5) G) hr (by rfl) G.g__law_copied.g G.g__law_copied.F.kp G.g__law_copied.b (tpa_cons (tp_var 6) tpa_nil)) tpa_nil)))) (tpa_cons tp_bl tpa_nil)))))) (ts_one (ts_ret (tv_p tp_bl))) ts_nil)
      (ts_cons (ts_for PassesOwn.never rfl (ti_rng1 (by rfl) G.z_range (tp_if (tpt_cmp op_lt opT_bl (tp_callB call_len_seq caT_len (by rfl) G.z_len PySem.boot_len (tpa_cons (tp_var 6) tpa_nil)) tp_int (nomark _)) tp_int tp_int)) (tg_name 12 sc_law.nd rfl (.inl rfl)) (ts_cons (ts_set 14 sc_law.nd rfl (.inl rfl) (tv_call (ok__law_other_plans (k := k + 2) G) hr (by rfl) G.g__law_other_plans.g G.g__law_other_plans.F.kp G.g__law_other_plans.b (tca_tv 1 (tv_callN (ok__law_pool (k := k + 5) G) hr (by rfl) G.g__law_pool.g G.g__law_pool.F.kp G.g__law_pool.b (tpa_cons (tp_var 0) (tpa_cons (tp_op op_add opT_int tp_int (tp_var 12)) (tpa_cons tp_int tpa_nil)))) (tca_tv 0 (tv_var 6) (tca_tv 0 (tv_var 7) tca_nil)))))
      (ts_cons (ts_set 15 sc_law.nd rfl (.inl rfl) (tv_callN (ok__law_copied (k := k + 5) G) hr (by rfl) G.g__law_copied.g G.g__law_copied.F.kp G.g__law_copied.b (tpa_cons (tp_var 14) tpa_nil)))
      (ts_cons (ts_set 16 sc_law.nd rfl (.inl rfl) (tv_p (tp_call (ok_shows_clearing (k := k + 0) G) hr (by rfl) G.g_shows_clearing.g G.g_shows_clearing.F.kp G.g_shows_clearing.b (tpa_cons (tp_call (ok__law_copied (k := k + 5) G) hr (by rfl) G.g__law_copied.g G.g__law_copied.F.kp G.g__law_copied.b (tpa_cons (tp_var 3) tpa_nil)) (tpa_cons (tp_callTy call_list_of caT_list (by rfl) G.z_list (by decide +kernel) (tpa_cons (tp_var 4) tpa_nil)) (tpa_cons (tp_var 15) tpa_nil))))))
      (ts_one (ts_if (tvt_p (tpt_not (tpt_val (tp_call (ok__law_same 4 (k := k + 0) G) hr (by rfl) G.g__law_same.g G.g__law_same.F.kp G.g__law_same.b (tpa_cons (tp_lst (tpa_cons (tp_var 16) (tpa_cons (tp_var 15) tpa_nil))) (tpa_cons (tp_lst (tpa_cons (tp_cmp (op_eqD (eqU hr)) opT_eqD (tp_var 14) (tp_var 6) (nomark _)) (tpa_cons (tp_var 14) tpa_nil))) tpa_nil)))))) (ts_one (ts_ret (tv_p tp_bl))) ts_nil))))))
      (ts_cons (ts_setLc (i := 13) (hc := rfl) (hN := sc_law.nd) (hy := rfl) (hyl := rfl) (hsw := sw_true rfl rfl rfl (by decide +kernel)) (own := [("coins", 17)]) (k := 0) (js := [17]) (hi := (ti_lst (tv_var 4))) (ok := (blkOk_by (N := ["script", "pool", "size", "matrix", "own", "owed", "plans", "up", "handed", "told", "row", "paid", "k", "less", "other", "mine", "held", "coins"]) (sc := defScope s_law) (by decide +kernel))) (hg := fun _ _ _ _ _ => (tg_name 17 sc_law.nd rfl (.inl rfl))) (ht := fun _ _ _ _ _ => tvts_nil) (he := fun _ _ _ _ _ => (tv_p (tp_callB (call_max2 rfl) caT_ii (by rfl) G.z_max (by decide +kernel) (tpa_cons tp_int (tpa_cons (tp_op op_sub opT_int (tp_var 17) tp_int) tpa_nil))))) (hj := by decide))
      (ts_one (ts_ret (tv_p (tp_call (ok__law_same 4 (k := k + 0) G) hr (by rfl) G.g__law_same.g G.g__law_same.F.kp G.g__law_same.b (tpa_cons (tp_call (ok_clearing (k := k + 0) G) hr (by rfl) G.g_clearing.g G.g_clearing.F.kp G.g_clearing.b (tpa_cons (tp_call (ok__law_copied (k := k + 5) G) hr (by rfl) G.g__law_copied.g G.g__law_copied.F.kp G.g__law_copied.b (tpa_cons (tp_var 3) tpa_nil)) (tpa_cons (tp_callTy call_list_of caT_list (by rfl) G.z_list (by decide +kernel) (tpa_cons (tp_var 13) tpa_nil)) tpa_nil))) (tpa_cons (tp_ix (tp_call (ok__law_plans (k := k + 3) G) hr (by rfl) G.g__law_plans.g G.g__law_plans.F.kp G.g__law_plans.b (tpa_cons (tp_var 3) (tpa_cons (tp_var 13) (tpa_cons (tp_var 5) tpa_nil)))) (tp_un un_neg unT_int tp_int) (fun _ _ => rfl)) tpa_nil))))))))))))))))))))))))), fun ts R hW hlen => ?_⟩

  obtain ⟨ns, rfl, h⟩ := hW
  simp -dsimp only [↓uSeq, ↓uNext, ↓uFor, ↓uSt, ↓uStV, ↓uAu, ↓uAp, ↓uApMv, ↓uAuN, ↓uAlias, ↓uDem, ↓uBrk, ↓uCnt, ↓uNev, ↓uRet, ↓uRetN, ↓uExp, ↓uExpP, ↓uSet, ↓uSetR, ↓uIf, ↓wVar, ↓wVarV, ↓wC, ↓w1, ↓w2, ↓wT, asB, ↓wChain, ↓wNil, ↓wCons, ↓wAnd, ↓wOr, ↓wNot, ↓wAndV, ↓wOrV, ↓wNotV, ↓wIf, ↓wCallP, ↓wCallV, ↓wCa, ↓wTup, ↓wLst, ↓oNon, ↓oSom, ↓wSlice, ↓wRev, ↓vP, ↓vSh, ↓vFit, ↓vaNil, ↓vaCons, ↓vLst, ↓vTup, ↓vTup0, ↓vList, ↓vRep, ↓vSlice, ↓cSl, ↓vCallN, ↓v1, ↓vCa, ↓vIx, ↓tP, ↓vAnd, ↓vOr, ↓vNot, ↓vIf, ↓vT, ↓v2, ↓vLc, ↓gI2, ↓gI2c, ↓gLen, ↓gII, ↓gI, ↓gInt1, ↓gRep, ↓gCat, ↓gKids, ↓gIn, ↓iLst, ↓TL.iTup, ↓TL.iRng1, ↓TL.iRng2, ↓iEn, ↓iZp, ↓hName, ↓hCons, ↓hNil, ↓hTup, ↓wSl, ↓wIsi, ↓wYes, rho0, iniE, entOf, allSh, List.replicate, List.length_cons, List.length_nil, Nat.reduceAdd, Nat.reduceSub, Nat.reduceLT, Nat.reduceLeDiff, List.cons_append, List.nil_append, List.getElem?_cons_zero, List.getElem?_cons_succ, Option.bind_some, Ent.tr, Ent.own, Ent.put, setE, killA, noAl_ow, noAl_io1, noAl_no, noAl_ro, noAl_al', killJ_cons, killJ_nil0, noRo_ow, noRo_io, noRo_no, noRo_al, mem1, notIn, noRA_ow, noRA_io, noRA_no, noRA_al, Plc, demE, List.foldl_cons, List.foldl_nil, List.map_cons, List.map_nil, List.set_cons_zero, List.set_cons_succ, endsOf, ↓outsOf, Option.map_some, plSet, TL.putAt, T.put, true_and, and_true, lst_set, lst_snoc, lm_set, lm_snoc, shOnly, shE_ow0, shE_ow1, shE_io, shE_no, Option.isSome_some, reduceIte, if_true, if_false, Bool.false_eq_true, Nat.reduceEqDiff]
  refine ⟨ns, 0, 92, rfl, by decide, fun pa pb => ⟨flatAt_Li, ?_⟩⟩
  refine ⟨rfl, rfl, fit0, callDraw_ow1 (by decide) (by decide) fun d a1 c1 d0 d1 => ?_⟩
  obtain ⟨n, hn⟩ : ∃ n : Nat, 2 + d = n := ⟨(2 + d).toNat, by omega⟩
  simp -dsimp only [↓uSeq, ↓uNext, ↓uFor, ↓uSt, ↓uStV, ↓uAu, ↓uAp, ↓uApMv, ↓uAuN, ↓uAlias, ↓uDem, ↓uBrk, ↓uCnt, ↓uNev, ↓uRet, ↓uRetN, ↓uExp, ↓uExpP, ↓uSet, ↓uSetR, ↓uIf, ↓wVar, ↓wVarV, ↓wC, ↓w1, ↓w2, ↓wT, asB, ↓wChain, ↓wNil, ↓wCons, ↓wAnd, ↓wOr, ↓wNot, ↓wAndV, ↓wOrV, ↓wNotV, ↓wIf, ↓wCallP, ↓wCallV, ↓wCa, ↓wTup, ↓wLst, ↓oNon, ↓oSom, ↓wSlice, ↓wRev, ↓vP, ↓vSh, ↓vFit, ↓vaNil, ↓vaCons, ↓vLst, ↓vTup, ↓vTup0, ↓vList, ↓vRep, ↓vSlice, ↓cSl, ↓vCallN, ↓v1, ↓vCa, ↓vIx, ↓tP, ↓vAnd, ↓vOr, ↓vNot, ↓vIf, ↓vT, ↓v2, ↓vLc, ↓gI2, ↓gI2c, ↓gLen, ↓gII, ↓gI, ↓gInt1, ↓gRep, ↓gCat, ↓gKids, ↓gIn, ↓iLst, ↓TL.iTup, ↓TL.iRng1, ↓TL.iRng2, ↓iEn, ↓iZp, ↓hName, ↓hCons, ↓hNil, ↓hTup, ↓wSl, ↓wIsi, ↓wYes, rho0, iniE, entOf, allSh, List.replicate, List.length_cons, List.length_nil, Nat.reduceAdd, Nat.reduceSub, Nat.reduceLT, Nat.reduceLeDiff, List.cons_append, List.nil_append, List.getElem?_cons_zero, List.getElem?_cons_succ, Option.bind_some, Ent.tr, Ent.own, Ent.put, setE, killA, noAl_ow, noAl_io1, noAl_no, noAl_ro, noAl_al', killJ_cons, killJ_nil0, noRo_ow, noRo_io, noRo_no, noRo_al, mem1, notIn, noRA_ow, noRA_io, noRA_no, noRA_al, Plc, demE, List.foldl_cons, List.foldl_nil, List.map_cons, List.map_nil, List.set_cons_zero, List.set_cons_succ, endsOf, ↓outsOf, Option.map_some, plSet, TL.putAt, T.put, true_and, and_true, lst_set, lst_snoc, lm_set, lm_snoc, shOnly, shE_ow0, shE_ow1, shE_io, shE_no, Option.isSome_some, reduceIte, if_true, if_false, Bool.false_eq_true, Nat.reduceEqDiff]
  rw [hn]
  have n2 : 2 ≤ n := by omega
  have n6 : n ≤ 6 := by omega
  refine ⟨rfl, ns, 1, 92, rfl, by decide, fun pa2 pb2 => ⟨flatAt_Li, .inl (Nat.le_refl _), rfl, fit0, callDebts n2 n6 fun m hm0 => ?_⟩⟩
  simp -dsimp only [↓uSeq, ↓uNext, ↓uFor, ↓uSt, ↓uStV, ↓uAu, ↓uAp, ↓uApMv, ↓uAuN, ↓uAlias, ↓uDem, ↓uBrk, ↓uCnt, ↓uNev, ↓uRet, ↓uRetN, ↓uExp, ↓uExpP, ↓uSet, ↓uSetR, ↓uIf, ↓wVar, ↓wVarV, ↓wC, ↓w1, ↓w2, ↓wT, asB, ↓wChain, ↓wNil, ↓wCons, ↓wAnd, ↓wOr, ↓wNot, ↓wAndV, ↓wOrV, ↓wNotV, ↓wIf, ↓wCallP, ↓wCallV, ↓wCa, ↓wTup, ↓wLst, ↓oNon, ↓oSom, ↓wSlice, ↓wRev, ↓vP, ↓vSh, ↓vFit, ↓vaNil, ↓vaCons, ↓vLst, ↓vTup, ↓vTup0, ↓vList, ↓vRep, ↓vSlice, ↓cSl, ↓vCallN, ↓v1, ↓vCa, ↓vIx, ↓tP, ↓vAnd, ↓vOr, ↓vNot, ↓vIf, ↓vT, ↓v2, ↓vLc, ↓gI2, ↓gI2c, ↓gLen, ↓gII, ↓gI, ↓gInt1, ↓gRep, ↓gCat, ↓gKids, ↓gIn, ↓iLst, ↓TL.iTup, ↓TL.iRng1, ↓TL.iRng2, ↓iEn, ↓iZp, ↓hName, ↓hCons, ↓hNil, ↓hTup, ↓wSl, ↓wIsi, ↓wYes, rho0, iniE, entOf, allSh, List.replicate, List.length_cons, List.length_nil, Nat.reduceAdd, Nat.reduceSub, Nat.reduceLT, Nat.reduceLeDiff, List.cons_append, List.nil_append, List.getElem?_cons_zero, List.getElem?_cons_succ, Option.bind_some, Ent.tr, Ent.own, Ent.put, setE, killA, noAl_ow, noAl_io1, noAl_no, noAl_ro, noAl_al', killJ_cons, killJ_nil0, noRo_ow, noRo_io, noRo_no, noRo_al, mem1, notIn, noRA_ow, noRA_io, noRA_no, noRA_al, Plc, demE, List.foldl_cons, List.foldl_nil, List.map_cons, List.map_nil, List.set_cons_zero, List.set_cons_succ, endsOf, ↓outsOf, Option.map_some, plSet, TL.putAt, T.put, true_and, and_true, lst_set, lst_snoc, lm_set, lm_snoc, shOnly, shE_ow0, shE_ow1, shE_io, shE_no, Option.isSome_some, reduceIte, if_true, if_false, Bool.false_eq_true, Nat.reduceEqDiff]
  refine ⟨ns, 2, 92, rfl, by decide, fun pa3 pb3 => ⟨flatAt_Li, .inl (Nat.le_refl _), rfl, fit0, callOwns n2 n6 fun own hol hox => ?_⟩⟩
  have hm : Okm m own := ⟨by omega, by omega, by rw [hm0.len, hol], fun r hr => ⟨by rw [(hm0.row r hr).1, hol], (hm0.row r hr).2⟩, fun r hr => by
    obtain ⟨i, hi⟩ := List.mem_iff_getElem?.mp hr
    have z := sum_dg (hm0.dg i r hi) fun x hx => ((hm0.row r hr).2 x hx).2
    rw [(hm0.row r hr).1] at z
    omega⟩
  have ho : ∀ x ∈ own, 0 ≤ x := fun x hx => (hox x hx).1
  simp -dsimp only [↓uSeq, ↓uNext, ↓uFor, ↓uSt, ↓uStV, ↓uAu, ↓uAp, ↓uApMv, ↓uAuN, ↓uAlias, ↓uDem, ↓uBrk, ↓uCnt, ↓uNev, ↓uRet, ↓uRetN, ↓uExp, ↓uExpP, ↓uSet, ↓uSetR, ↓uIf, ↓wVar, ↓wVarV, ↓wC, ↓w1, ↓w2, ↓wT, asB, ↓wChain, ↓wNil, ↓wCons, ↓wAnd, ↓wOr, ↓wNot, ↓wAndV, ↓wOrV, ↓wNotV, ↓wIf, ↓wCallP, ↓wCallV, ↓wCa, ↓wTup, ↓wLst, ↓oNon, ↓oSom, ↓wSlice, ↓wRev, ↓vP, ↓vSh, ↓vFit, ↓vaNil, ↓vaCons, ↓vLst, ↓vTup, ↓vTup0, ↓vList, ↓vRep, ↓vSlice, ↓cSl, ↓vCallN, ↓v1, ↓vCa, ↓vIx, ↓tP, ↓vAnd, ↓vOr, ↓vNot, ↓vIf, ↓vT, ↓v2, ↓vLc, ↓gI2, ↓gI2c, ↓gLen, ↓gII, ↓gI, ↓gInt1, ↓gRep, ↓gCat, ↓gKids, ↓gIn, ↓iLst, ↓TL.iTup, ↓TL.iRng1, ↓TL.iRng2, ↓iEn, ↓iZp, ↓hName, ↓hCons, ↓hNil, ↓hTup, ↓wSl, ↓wIsi, ↓wYes, rho0, iniE, entOf, allSh, List.replicate, List.length_cons, List.length_nil, Nat.reduceAdd, Nat.reduceSub, Nat.reduceLT, Nat.reduceLeDiff, List.cons_append, List.nil_append, List.getElem?_cons_zero, List.getElem?_cons_succ, Option.bind_some, Ent.tr, Ent.own, Ent.put, setE, killA, noAl_ow, noAl_io1, noAl_no, noAl_ro, noAl_al', killJ_cons, killJ_nil0, noRo_ow, noRo_io, noRo_no, noRo_al, mem1, notIn, noRA_ow, noRA_io, noRA_no, noRA_al, Plc, demE, List.foldl_cons, List.foldl_nil, List.map_cons, List.map_nil, List.set_cons_zero, List.set_cons_succ, endsOf, ↓outsOf, Option.map_some, plSet, TL.putAt, T.put, true_and, and_true, lst_set, lst_snoc, lm_set, lm_snoc, shOnly, shE_ow0, shE_ow1, shE_io, shE_no, Option.isSome_some, reduceIte, if_true, if_false, Bool.false_eq_true, Nat.reduceEqDiff]
  have hml := hm.len
  refine ⟨fun i acc ρ => ∃ as, acc = List.map T.int as ∧ as = (owedF m).take i ∧ ρ = [Ent.ow 0 (T.scr ns), Ent.ow 1 (Li [a1, pb, c1]), Ent.ow 0 (T.int n), Ent.ow 0 (Lm m), Ent.ow 0 (Li own), Ent.no,
      Ent.no, Ent.no, Ent.no, Ent.no, Ent.no, Ent.no, Ent.no, Ent.no, Ent.no, Ent.no, Ent.no, Ent.no], ⟨[], rfl, rfl, rfl⟩, fun i t acc ρ hi hI => ?_, fun acc ρ hI => ?_⟩
  · obtain ⟨as, rfl, ha, rfl⟩ := hI
    obtain ⟨r, hr, rfl⟩ := mapLi_get.mp hi
    have il := (List.getElem?_eq_some_iff.mp hr).1
    simp -dsimp only [↓uSeq, ↓uNext, ↓uFor, ↓uSt, ↓uStV, ↓uAu, ↓uAp, ↓uApMv, ↓uAuN, ↓uAlias, ↓uDem, ↓uBrk, ↓uCnt, ↓uNev, ↓uRet, ↓uRetN, ↓uExp, ↓uExpP, ↓uSet, ↓uSetR, ↓uIf, ↓wVar, ↓wVarV, ↓wC, ↓w1, ↓w2, ↓wT, asB, ↓wChain, ↓wNil, ↓wCons, ↓wAnd, ↓wOr, ↓wNot, ↓wAndV, ↓wOrV, ↓wNotV, ↓wIf, ↓wCallP, ↓wCallV, ↓wCa, ↓wTup, ↓wLst, ↓oNon, ↓oSom, ↓wSlice, ↓wRev, ↓vP, ↓vSh, ↓vFit, ↓vaNil, ↓vaCons, ↓vLst, ↓vTup, ↓vTup0, ↓vList, ↓vRep, ↓vSlice, ↓cSl, ↓vCallN, ↓v1, ↓vCa, ↓vIx, ↓tP, ↓vAnd, ↓vOr, ↓vNot, ↓vIf, ↓vT, ↓v2, ↓vLc, ↓gI2, ↓gI2c, ↓gLen, ↓gII, ↓gI, ↓gInt1, ↓gRep, ↓gCat, ↓gKids, ↓gIn, ↓iLst, ↓TL.iTup, ↓TL.iRng1, ↓TL.iRng2, ↓iEn, ↓iZp, ↓hName, ↓hCons, ↓hNil, ↓hTup, ↓wSl, ↓wIsi, ↓wYes, rho0, iniE, entOf, allSh, List.replicate, List.length_cons, List.length_nil, Nat.reduceAdd, Nat.reduceSub, Nat.reduceLT, Nat.reduceLeDiff, List.cons_append, List.nil_append, List.getElem?_cons_zero, List.getElem?_cons_succ, Option.bind_some, Ent.tr, Ent.own, Ent.put, setE, killA, noAl_ow, noAl_io1, noAl_no, noAl_ro, noAl_al', killJ_cons, killJ_nil0, noRo_ow, noRo_io, noRo_no, noRo_al, mem1, notIn, noRA_ow, noRA_io, noRA_no, noRA_al, Plc, demE, List.foldl_cons, List.foldl_nil, List.map_cons, List.map_nil, List.set_cons_zero, List.set_cons_succ, endsOf, ↓outsOf, Option.map_some, plSet, TL.putAt, T.put, true_and, and_true, lst_set, lst_snoc, lm_set, lm_snoc, shOnly, shE_ow0, shE_ow1, shE_io, shE_no, Option.isSome_some, reduceIte, if_true, if_false, Bool.false_eq_true, Nat.reduceEqDiff]
    refine ⟨r, rfl, rfl, fit0, ?_, as ++ [r.sum], ?_, ?_⟩
    · subst ha; simp; omega
    · rw [List.map_append]; rfl
    · rw [ha]
      exact take_snoc (by unfold owedF; rw [List.getElem?_map, hr]; rfl)
  obtain ⟨as, rfl, ha, rfl⟩ := hI
  have e2 : (List.map (fun xs => Li xs) m).length = (owedF m).length := by unfold owedF; simp
  rw [e2, take_len] at ha
  subst ha
  clear e2
  obtain ⟨dp, K1⟩ := okall_owed hm ho
  obtain ⟨dz, K2⟩ := okall_zero hm ho
  have nf := Bool.false_ne_true
  simp -dsimp only [↓uSeq, ↓uNext, ↓uFor, ↓uSt, ↓uStV, ↓uAu, ↓uAp, ↓uApMv, ↓uAuN, ↓uAlias, ↓uDem, ↓uBrk, ↓uCnt, ↓uNev, ↓uRet, ↓uRetN, ↓uExp, ↓uExpP, ↓uSet, ↓uSetR, ↓uIf, ↓wVar, ↓wVarV, ↓wC, ↓w1, ↓w2, ↓wT, asB, ↓wChain, ↓wNil, ↓wCons, ↓wAnd, ↓wOr, ↓wNot, ↓wAndV, ↓wOrV, ↓wNotV, ↓wIf, ↓wCallP, ↓wCallV, ↓wCa, ↓wTup, ↓wLst, ↓oNon, ↓oSom, ↓wSlice, ↓wRev, ↓vP, ↓vSh, ↓vFit, ↓vaNil, ↓vaCons, ↓vLst, ↓vTup, ↓vTup0, ↓vList, ↓vRep, ↓vSlice, ↓cSl, ↓vCallN, ↓v1, ↓vCa, ↓vIx, ↓tP, ↓vAnd, ↓vOr, ↓vNot, ↓vIf, ↓vT, ↓v2, ↓vLc, ↓gI2, ↓gI2c, ↓gLen, ↓gII, ↓gI, ↓gInt1, ↓gRep, ↓gCat, ↓gKids, ↓gIn, ↓iLst, ↓TL.iTup, ↓TL.iRng1, ↓TL.iRng2, ↓iEn, ↓iZp, ↓hName, ↓hCons, ↓hNil, ↓hTup, ↓wSl, ↓wIsi, ↓wYes, rho0, iniE, entOf, allSh, List.replicate, List.length_cons, List.length_nil, Nat.reduceAdd, Nat.reduceSub, Nat.reduceLT, Nat.reduceLeDiff, List.cons_append, List.nil_append, List.getElem?_cons_zero, List.getElem?_cons_succ, Option.bind_some, Ent.tr, Ent.own, Ent.put, setE, killA, noAl_ow, noAl_io1, noAl_no, noAl_ro, noAl_al', killJ_cons, killJ_nil0, noRo_ow, noRo_io, noRo_no, noRo_al, mem1, notIn, noRA_ow, noRA_io, noRA_no, noRA_al, Plc, demE, List.foldl_cons, List.foldl_nil, List.map_cons, List.map_nil, List.set_cons_zero, List.set_cons_succ, endsOf, ↓outsOf, Option.map_some, plSet, TL.putAt, T.put, true_and, and_true, lst_set, lst_snoc, lm_set, lm_snoc, shOnly, shE_ow0, shE_ow1, shE_io, shE_no, Option.isSome_some, reduceIte, if_true, if_false, Bool.false_eq_true, Nat.reduceEqDiff]
  refine ⟨fit0, fit0, fit0, callPlans K1 ?_⟩
  simp -dsimp only [↓uSeq, ↓uNext, ↓uFor, ↓uSt, ↓uStV, ↓uAu, ↓uAp, ↓uApMv, ↓uAuN, ↓uAlias, ↓uDem, ↓uBrk, ↓uCnt, ↓uNev, ↓uRet, ↓uRetN, ↓uExp, ↓uExpP, ↓uSet, ↓uSetR, ↓uIf, ↓wVar, ↓wVarV, ↓wC, ↓w1, ↓w2, ↓wT, asB, ↓wChain, ↓wNil, ↓wCons, ↓wAnd, ↓wOr, ↓wNot, ↓wAndV, ↓wOrV, ↓wNotV, ↓wIf, ↓wCallP, ↓wCallV, ↓wCa, ↓wTup, ↓wLst, ↓oNon, ↓oSom, ↓wSlice, ↓wRev, ↓vP, ↓vSh, ↓vFit, ↓vaNil, ↓vaCons, ↓vLst, ↓vTup, ↓vTup0, ↓vList, ↓vRep, ↓vSlice, ↓cSl, ↓vCallN, ↓v1, ↓vCa, ↓vIx, ↓tP, ↓vAnd, ↓vOr, ↓vNot, ↓vIf, ↓vT, ↓v2, ↓vLc, ↓gI2, ↓gI2c, ↓gLen, ↓gII, ↓gI, ↓gInt1, ↓gRep, ↓gCat, ↓gKids, ↓gIn, ↓iLst, ↓TL.iTup, ↓TL.iRng1, ↓TL.iRng2, ↓iEn, ↓iZp, ↓hName, ↓hCons, ↓hNil, ↓hTup, ↓wSl, ↓wIsi, ↓wYes, rho0, iniE, entOf, allSh, List.replicate, List.length_cons, List.length_nil, Nat.reduceAdd, Nat.reduceSub, Nat.reduceLT, Nat.reduceLeDiff, List.cons_append, List.nil_append, List.getElem?_cons_zero, List.getElem?_cons_succ, Option.bind_some, Ent.tr, Ent.own, Ent.put, setE, killA, noAl_ow, noAl_io1, noAl_no, noAl_ro, noAl_al', killJ_cons, killJ_nil0, noRo_ow, noRo_io, noRo_no, noRo_al, mem1, notIn, noRA_ow, noRA_io, noRA_no, noRA_al, Plc, demE, List.foldl_cons, List.foldl_nil, List.map_cons, List.map_nil, List.set_cons_zero, List.set_cons_succ, endsOf, ↓outsOf, Option.map_some, plSet, TL.putAt, T.put, true_and, and_true, lst_set, lst_snoc, lm_set, lm_snoc, shOnly, shE_ow0, shE_ow1, shE_io, shE_no, Option.isSome_some, reduceIte, if_true, if_false, Bool.false_eq_true, Nat.reduceEqDiff]
  rw [repZ]
  refine ⟨fit0, fit0, by omega, by omega, by omega, fit0, callPlans (by rw [← hol]; exact K2) ?_⟩
  generalize hP : planF m own (owedF m) dp = P
  generalize hU : planF m own (List.replicate n 0) dz = U
  have hPl : P.length ≤ 1300 := by rw [← hP, planF_len]; have := K1.s.le; omega
  have hP0 : 0 < P.length := by rw [← hP, planF_len]; omega
  have hUl : U.length ≤ 1300 := by rw [← hU, planF_len]; have := K2.s.le; omega
  have hPr : ∀ r ∈ P, r.length = n := fun r hr => by
    rw [← hP] at hr
    unfold planF at hr
    obtain ⟨i, _, rfl⟩ := List.mem_map.mp hr
    rw [(K1.q i).len, hol]
  have hlast : (List.map (fun xs => Li xs) P).getLast? = some (Li (itF m own (owedF m) dp)) := by rw [← hP]; exact getLast_map planF_last
  have hfl : (itF m own (owedF m) dp).length = n := by rw [(K1.q dp).len, hol]
  have sP : smlT (Lm P) = true := sml_Lm (by omega) fun r hr => by rw [hPr r hr]; omega
  have sm : smlT (Lm m) = true := sml_Lm (by omega) fun r hr => by rw [(hm0.row r hr).1]; omega
  have so : smlT (Li own) = true := sml_Li (by omega)
  have sf : smlT (Li (itF m own (owedF m) dp)) = true := sml_Li (by omega)
  simp -dsimp only [gh0, gh1, ↓uSeq, ↓uNext, ↓uFor, ↓uSt, ↓uStV, ↓uAu, ↓uAp, ↓uApMv, ↓uAuN, ↓uAlias, ↓uDem, ↓uBrk, ↓uCnt, ↓uNev, ↓uRet, ↓uRetN, ↓uExp, ↓uExpP, ↓uSet, ↓uSetR, ↓uIf, ↓wVar, ↓wVarV, ↓wC, ↓w1, ↓w2, ↓wT, asB, ↓wChain, ↓wNil, ↓wCons, ↓wAnd, ↓wOr, ↓wNot, ↓wAndV, ↓wOrV, ↓wNotV, ↓wIf, ↓wCallP, ↓wCallV, ↓wCa, ↓wTup, ↓wLst, ↓oNon, ↓oSom, ↓wSlice, ↓wRev, ↓vP, ↓vSh, ↓vFit, ↓vaNil, ↓vaCons, ↓vLst, ↓vTup, ↓vTup0, ↓vList, ↓vRep, ↓vSlice, ↓cSl, ↓vCallN, ↓v1, ↓vCa, ↓vIx, ↓tP, ↓vAnd, ↓vOr, ↓vNot, ↓vIf, ↓vT, ↓v2, ↓vLc, ↓gI2, ↓gI2c, ↓gLen, ↓gII, ↓gI, ↓gInt1, ↓gRep, ↓gCat, ↓gKids, ↓gIn, ↓iLst, ↓TL.iTup, ↓TL.iRng1, ↓TL.iRng2, ↓iEn, ↓iZp, ↓hName, ↓hCons, ↓hNil, ↓hTup, ↓wSl, ↓wIsi, ↓wYes, rho0, iniE, entOf, allSh, List.replicate, List.length_cons, List.length_nil, Nat.reduceAdd, Nat.reduceSub, Nat.reduceLT, Nat.reduceLeDiff, List.cons_append, List.nil_append, List.getElem?_cons_zero, List.getElem?_cons_succ, Option.bind_some, Ent.tr, Ent.own, Ent.put, setE, killA, noAl_ow, noAl_io1, noAl_no, noAl_ro, noAl_al', killJ_cons, killJ_nil0, noRo_ow, noRo_io, noRo_no, noRo_al, mem1, notIn, noRA_ow, noRA_io, noRA_no, noRA_al, Plc, demE, List.foldl_cons, List.foldl_nil, List.map_cons, List.map_nil, List.set_cons_zero, List.set_cons_succ, endsOf, ↓outsOf, Option.map_some, plSet, TL.putAt, T.put, true_and, and_true, lst_set, lst_snoc, lm_set, lm_snoc, shOnly, shE_ow0, shE_ow1, shE_io, shE_no, Option.isSome_some, reduceIte, if_true, if_false, Bool.false_eq_true, Nat.reduceEqDiff]
  refine ⟨m, rfl, by omega, ?_⟩
  simp -dsimp only [gh0, gh1, ↓uSeq, ↓uNext, ↓uFor, ↓uSt, ↓uStV, ↓uAu, ↓uAp, ↓uApMv, ↓uAuN, ↓uAlias, ↓uDem, ↓uBrk, ↓uCnt, ↓uNev, ↓uRet, ↓uRetN, ↓uExp, ↓uExpP, ↓uSet, ↓uSetR, ↓uIf, ↓wVar, ↓wVarV, ↓wC, ↓w1, ↓w2, ↓wT, asB, ↓wChain, ↓wNil, ↓wCons, ↓wAnd, ↓wOr, ↓wNot, ↓wAndV, ↓wOrV, ↓wNotV, ↓wIf, ↓wCallP, ↓wCallV, ↓wCa, ↓wTup, ↓wLst, ↓oNon, ↓oSom, ↓wSlice, ↓wRev, ↓vP, ↓vSh, ↓vFit, ↓vaNil, ↓vaCons, ↓vLst, ↓vTup, ↓vTup0, ↓vList, ↓vRep, ↓vSlice, ↓cSl, ↓vCallN, ↓v1, ↓vCa, ↓vIx, ↓tP, ↓vAnd, ↓vOr, ↓vNot, ↓vIf, ↓vT, ↓v2, ↓vLc, ↓gI2, ↓gI2c, ↓gLen, ↓gII, ↓gI, ↓gInt1, ↓gRep, ↓gCat, ↓gKids, ↓gIn, ↓iLst, ↓TL.iTup, ↓TL.iRng1, ↓TL.iRng2, ↓iEn, ↓iZp, ↓hName, ↓hCons, ↓hNil, ↓hTup, ↓wSl, ↓wIsi, ↓wYes, rho0, iniE, entOf, allSh, List.replicate, List.length_cons, List.length_nil, Nat.reduceAdd, Nat.reduceSub, Nat.reduceLT, Nat.reduceLeDiff, List.cons_append, List.nil_append, List.getElem?_cons_zero, List.getElem?_cons_succ, Option.bind_some, Ent.tr, Ent.own, Ent.put, setE, killA, noAl_ow, noAl_io1, noAl_no, noAl_ro, noAl_al', killJ_cons, killJ_nil0, noRo_ow, noRo_io, noRo_no, noRo_al, mem1, notIn, noRA_ow, noRA_io, noRA_no, noRA_al, Plc, demE, List.foldl_cons, List.foldl_nil, List.map_cons, List.map_nil, List.set_cons_zero, List.set_cons_succ, endsOf, ↓outsOf, Option.map_some, plSet, TL.putAt, T.put, true_and, and_true, lst_set, lst_snoc, lm_set, lm_snoc, shOnly, shE_ow0, shE_ow1, shE_io, shE_no, Option.isSome_some, reduceIte, if_true, if_false, Bool.false_eq_true, Nat.reduceEqDiff]
  refine ⟨m, own, dp, rfl, K1, flatAt_Lm, ?_⟩
  rw [hP]
  have k2 : (T.lst [Lm m, Li own]).okd 3 = true := okd_pair okd_Lm okd_Li
  have s2 : smlT (T.lst [Lm m, Li own]) = true := sml_pair sm so
  refine ⟨_, rfl, by decide, okd_pair okd_Lm k2, sml_pair sP s2, ifF nf ?_⟩
  refine ⟨rfl, P.length, fun i ρ => ∃ ps x10, ρ = [Ent.ow 0 (T.scr ns), Ent.ow 1 (Li [a1, pb, c1]), Ent.ow 0 (T.int n), Ent.ow 0 (Lm m), Ent.ow 0 (Li own),
      Ent.ow 0 (T.lst (List.map T.int (owedF m))), Ent.ow 0 (Lm P), Ent.ow 0 (Lm U), Ent.ow 0 (T.lst [Lm m, T.lst (List.map T.int own)]), Ent.io 2 (Lm ps), x10, Ent.no, Ent.no,
      Ent.no, Ent.no, Ent.no, Ent.no, Ent.no] ∧ ps.length = P.length ∧ (∀ r ∈ ps, r.length = n) ∧ x10.isIo = false,
    ⟨P, _, rfl, rfl, hPr, rfl⟩, fun i ρ' hi hI => ?_, fun ρ' hI => ?_⟩
  · obtain ⟨ps, x10, rfl, hl, hr, hx⟩ := hI
    refine ⟨1, _, rfl, by rw [List.length_map]; exact hl, fun t ht => ?_⟩
    obtain ⟨r, hr1, rfl⟩ := mapLi_get.mp ht
    have rl := hr r (List.mem_of_getElem? hr1)
    refine ⟨by decide, by simp, ?_⟩
    have hx0 : r[0]? = some (r[0]'(by omega)) := List.getElem?_eq_getElem (by omega)
    generalize r[0]'(by omega) = y at hx0
    have hq : ixN (List.map T.int r).length 0 = some 0 := ixN_nat (j := 0) (by rw [List.length_map]; omega)
    show uSt 10 _ _ _ (setE _ 10 (.al 9 i (.lst (List.map T.int r))))
    simp -dsimp only [hq, ↓uSeq, ↓uNext, ↓uFor, ↓uSt, ↓uStV, ↓uAu, ↓uAp, ↓uApMv, ↓uAuN, ↓uAlias, ↓uDem, ↓uBrk, ↓uCnt, ↓uNev, ↓uRet, ↓uRetN, ↓uExp, ↓uExpP, ↓uSet, ↓uSetR, ↓uIf, ↓wVar, ↓wVarV, ↓wC, ↓w1, ↓w2, ↓wT, asB, ↓wChain, ↓wNil, ↓wCons, ↓wAnd, ↓wOr, ↓wNot, ↓wAndV, ↓wOrV, ↓wNotV, ↓wIf, ↓wCallP, ↓wCallV, ↓wCa, ↓wTup, ↓wLst, ↓oNon, ↓oSom, ↓wSlice, ↓wRev, ↓vP, ↓vSh, ↓vFit, ↓vaNil, ↓vaCons, ↓vLst, ↓vTup, ↓vTup0, ↓vList, ↓vRep, ↓vSlice, ↓cSl, ↓vCallN, ↓v1, ↓vCa, ↓vIx, ↓tP, ↓vAnd, ↓vOr, ↓vNot, ↓vIf, ↓vT, ↓v2, ↓vLc, ↓gI2, ↓gI2c, ↓gLen, ↓gII, ↓gI, ↓gInt1, ↓gRep, ↓gCat, ↓gKids, ↓gIn, ↓iLst, ↓TL.iTup, ↓TL.iRng1, ↓TL.iRng2, ↓iEn, ↓iZp, ↓hName, ↓hCons, ↓hNil, ↓hTup, ↓wSl, ↓wIsi, ↓wYes, rho0, iniE, entOf, allSh, List.replicate, List.length_cons, List.length_nil, Nat.reduceAdd, Nat.reduceSub, Nat.reduceLT, Nat.reduceLeDiff, List.cons_append, List.nil_append, List.getElem?_cons_zero, List.getElem?_cons_succ, Option.bind_some, Ent.tr, Ent.own, Ent.put, setE, killA, noAl_ow, noAl_io1, noAl_no, noAl_ro, noAl_al', killJ_cons, killJ_nil0, noRo_ow, noRo_io, noRo_no, noRo_al, mem1, notIn, noRA_ow, noRA_io, noRA_no, noRA_al, Plc, demE, List.foldl_cons, List.foldl_nil, List.map_cons, List.map_nil, List.set_cons_zero, List.set_cons_succ, endsOf, ↓outsOf, Option.map_some, plSet, TL.putAt, T.put, true_and, and_true, lst_set, lst_snoc, lm_set, lm_snoc, shOnly, shE_ow0, shE_ow1, shE_io, shE_no, Option.isSome_some, reduceIte, if_true, if_false, Bool.false_eq_true, Nat.reduceEqDiff]
    refine gIx_Li (i := 0) hx0 ?_
    simp -dsimp only [hq, ↓uSeq, ↓uNext, ↓uFor, ↓uSt, ↓uStV, ↓uAu, ↓uAp, ↓uApMv, ↓uAuN, ↓uAlias, ↓uDem, ↓uBrk, ↓uCnt, ↓uNev, ↓uRet, ↓uRetN, ↓uExp, ↓uExpP, ↓uSet, ↓uSetR, ↓uIf, ↓wVar, ↓wVarV, ↓wC, ↓w1, ↓w2, ↓wT, asB, ↓wChain, ↓wNil, ↓wCons, ↓wAnd, ↓wOr, ↓wNot, ↓wAndV, ↓wOrV, ↓wNotV, ↓wIf, ↓wCallP, ↓wCallV, ↓wCa, ↓wTup, ↓wLst, ↓oNon, ↓oSom, ↓wSlice, ↓wRev, ↓vP, ↓vSh, ↓vFit, ↓vaNil, ↓vaCons, ↓vLst, ↓vTup, ↓vTup0, ↓vList, ↓vRep, ↓vSlice, ↓cSl, ↓vCallN, ↓v1, ↓vCa, ↓vIx, ↓tP, ↓vAnd, ↓vOr, ↓vNot, ↓vIf, ↓vT, ↓v2, ↓vLc, ↓gI2, ↓gI2c, ↓gLen, ↓gII, ↓gI, ↓gInt1, ↓gRep, ↓gCat, ↓gKids, ↓gIn, ↓iLst, ↓TL.iTup, ↓TL.iRng1, ↓TL.iRng2, ↓iEn, ↓iZp, ↓hName, ↓hCons, ↓hNil, ↓hTup, ↓wSl, ↓wIsi, ↓wYes, rho0, iniE, entOf, allSh, List.replicate, List.length_cons, List.length_nil, Nat.reduceAdd, Nat.reduceSub, Nat.reduceLT, Nat.reduceLeDiff, List.cons_append, List.nil_append, List.getElem?_cons_zero, List.getElem?_cons_succ, Option.bind_some, Ent.tr, Ent.own, Ent.put, setE, killA, noAl_ow, noAl_io1, noAl_no, noAl_ro, noAl_al', killJ_cons, killJ_nil0, noRo_ow, noRo_io, noRo_no, noRo_al, mem1, notIn, noRA_ow, noRA_io, noRA_no, noRA_al, Plc, demE, List.foldl_cons, List.foldl_nil, List.map_cons, List.map_nil, List.set_cons_zero, List.set_cons_succ, endsOf, ↓outsOf, Option.map_some, plSet, TL.putAt, T.put, true_and, and_true, lst_set, lst_snoc, lm_set, lm_snoc, shOnly, shE_ow0, shE_ow1, shE_io, shE_no, Option.isSome_some, reduceIte, if_true, if_false, Bool.false_eq_true, Nat.reduceEqDiff]
    refine ⟨rfl, fit0, ps.set i (r.set 0 (y + 1)), _, rfl, by rw [List.length_set]; exact hl, fun q hq => ?_, rfl⟩
    rcases List.mem_or_eq_of_mem_set hq with z | rfl
    · exact hr q z
    · rw [List.length_set]; exact rl
  obtain ⟨ps, x10, rfl, hl, hr, hx⟩ := hI
  refine ⟨rfl, by simp only [List.map_cons, List.map_nil, List.set_cons_succ, List.set_cons_zero, hx]; rfl, ?_⟩
  show uSeq _ _ _ [Ent.ow 0 (T.scr ns), Ent.ow 1 (Li [a1, pb, c1]), Ent.ow 0 (T.int n), Ent.ow 0 (Lm m), Ent.ow 0 (Li own),
      Ent.ow 0 (T.lst (List.map T.int (owedF m))), Ent.ow 0 (Lm P), Ent.ow 0 (Lm U), Ent.ow 0 (T.lst [Lm m, T.lst (List.map T.int own)]), Ent.ow 2 (Lm ps), x10, Ent.no, Ent.no,
      Ent.no, Ent.no, Ent.no, Ent.no, Ent.no]
  simp -dsimp only [gh0, gh1, ↓uSeq, ↓uNext, ↓uFor, ↓uSt, ↓uStV, ↓uAu, ↓uAp, ↓uApMv, ↓uAuN, ↓uAlias, ↓uDem, ↓uBrk, ↓uCnt, ↓uNev, ↓uRet, ↓uRetN, ↓uExp, ↓uExpP, ↓uSet, ↓uSetR, ↓uIf, ↓wVar, ↓wVarV, ↓wC, ↓w1, ↓w2, ↓wT, asB, ↓wChain, ↓wNil, ↓wCons, ↓wAnd, ↓wOr, ↓wNot, ↓wAndV, ↓wOrV, ↓wNotV, ↓wIf, ↓wCallP, ↓wCallV, ↓wCa, ↓wTup, ↓wLst, ↓oNon, ↓oSom, ↓wSlice, ↓wRev, ↓vP, ↓vSh, ↓vFit, ↓vaNil, ↓vaCons, ↓vLst, ↓vTup, ↓vTup0, ↓vList, ↓vRep, ↓vSlice, ↓cSl, ↓vCallN, ↓v1, ↓vCa, ↓vIx, ↓tP, ↓vAnd, ↓vOr, ↓vNot, ↓vIf, ↓vT, ↓v2, ↓vLc, ↓gI2, ↓gI2c, ↓gLen, ↓gII, ↓gI, ↓gInt1, ↓gRep, ↓gCat, ↓gKids, ↓gIn, ↓iLst, ↓TL.iTup, ↓TL.iRng1, ↓TL.iRng2, ↓iEn, ↓iZp, ↓hName, ↓hCons, ↓hNil, ↓hTup, ↓wSl, ↓wIsi, ↓wYes, rho0, iniE, entOf, allSh, List.replicate, List.length_cons, List.length_nil, Nat.reduceAdd, Nat.reduceSub, Nat.reduceLT, Nat.reduceLeDiff, List.cons_append, List.nil_append, List.getElem?_cons_zero, List.getElem?_cons_succ, Option.bind_some, Ent.tr, Ent.own, Ent.put, setE, killA, noAl_ow, noAl_io1, noAl_no, noAl_ro, noAl_al', killJ_cons, killJ_nil0, noRo_ow, noRo_io, noRo_no, noRo_al, mem1, notIn, noRA_ow, noRA_io, noRA_no, noRA_al, Plc, demE, List.foldl_cons, List.foldl_nil, List.map_cons, List.map_nil, List.set_cons_zero, List.set_cons_succ, endsOf, ↓outsOf, Option.map_some, plSet, TL.putAt, T.put, true_and, and_true, lst_set, lst_snoc, lm_set, lm_snoc, shOnly, shE_ow0, shE_ow1, shE_io, shE_no, Option.isSome_some, reduceIte, if_true, if_false, Bool.false_eq_true, Nat.reduceEqDiff]
  rw [repZ]
  have hUr : ∀ r ∈ U, r.length = n := fun r hr => by
    rw [← hU] at hr
    unfold planF at hr
    obtain ⟨i, _, rfl⟩ := List.mem_map.mp hr
    have z := (K2.q i).len
    rw [hol] at z
    exact z
  refine ⟨by omega, by omega, by omega, flats_ints _, .inl (Nat.le_refl _), by rw [List.length_map]; omega, m, own, dp, rfl, K1, flatAt_Li, gIx_last hlast ⟨_, rfl, by decide, okd_pair okd_Li k2, sml_pair sf s2, ifF nf ?_⟩⟩
  have hf0 : (itF m own (owedF m) dp)[0]? = some ((itF m own (owedF m) dp)[0]'(by omega)) := List.getElem?_eq_getElem (by omega)
  generalize (itF m own (owedF m) dp)[0]'(by omega) = y0 at hf0
  have hqf : ixN (List.map T.int (itF m own (owedF m) dp)).length 0 = some 0 := ixN_nat (j := 0) (by rw [List.length_map]; omega)
  refine gIx_Li (i := 0) hf0 ?_
  simp -dsimp only [hqf, gh0, gh1, ↓uSeq, ↓uNext, ↓uFor, ↓uSt, ↓uStV, ↓uAu, ↓uAp, ↓uApMv, ↓uAuN, ↓uAlias, ↓uDem, ↓uBrk, ↓uCnt, ↓uNev, ↓uRet, ↓uRetN, ↓uExp, ↓uExpP, ↓uSet, ↓uSetR, ↓uIf, ↓wVar, ↓wVarV, ↓wC, ↓w1, ↓w2, ↓wT, asB, ↓wChain, ↓wNil, ↓wCons, ↓wAnd, ↓wOr, ↓wNot, ↓wAndV, ↓wOrV, ↓wNotV, ↓wIf, ↓wCallP, ↓wCallV, ↓wCa, ↓wTup, ↓wLst, ↓oNon, ↓oSom, ↓wSlice, ↓wRev, ↓vP, ↓vSh, ↓vFit, ↓vaNil, ↓vaCons, ↓vLst, ↓vTup, ↓vTup0, ↓vList, ↓vRep, ↓vSlice, ↓cSl, ↓vCallN, ↓v1, ↓vCa, ↓vIx, ↓tP, ↓vAnd, ↓vOr, ↓vNot, ↓vIf, ↓vT, ↓v2, ↓vLc, ↓gI2, ↓gI2c, ↓gLen, ↓gII, ↓gI, ↓gInt1, ↓gRep, ↓gCat, ↓gKids, ↓gIn, ↓iLst, ↓TL.iTup, ↓TL.iRng1, ↓TL.iRng2, ↓iEn, ↓iZp, ↓hName, ↓hCons, ↓hNil, ↓hTup, ↓wSl, ↓wIsi, ↓wYes, rho0, iniE, entOf, allSh, List.replicate, List.length_cons, List.length_nil, Nat.reduceAdd, Nat.reduceSub, Nat.reduceLT, Nat.reduceLeDiff, List.cons_append, List.nil_append, List.getElem?_cons_zero, List.getElem?_cons_succ, Option.bind_some, Ent.tr, Ent.own, Ent.put, setE, killA, noAl_ow, noAl_io1, noAl_no, noAl_ro, noAl_al', killJ_cons, killJ_nil0, noRo_ow, noRo_io, noRo_no, noRo_al, mem1, notIn, noRA_ow, noRA_io, noRA_no, noRA_al, Plc, demE, List.foldl_cons, List.foldl_nil, List.map_cons, List.map_nil, List.set_cons_zero, List.set_cons_succ, endsOf, ↓outsOf, Option.map_some, plSet, TL.putAt, T.put, true_and, and_true, lst_set, lst_snoc, lm_set, lm_snoc, shOnly, shE_ow0, shE_ow1, shE_io, shE_no, Option.isSome_some, reduceIte, if_true, if_false, Bool.false_eq_true, Nat.reduceEqDiff]
  refine ⟨rfl, fit0, m, own, dp, rfl, K1, m, own, dp, rfl, K1, gIx_last hlast ⟨T.lst [Lm P, Li (itF m own (owedF m) dp)], by rw [hP], by decide, okd_pair okd_Lm okd_Li, sml_pair sP sf, ifF nf ?_⟩⟩
  refine ⟨P, rfl, by omega, m, own, dp, Lm P, rfl, okd_eqok (n := 2) okd_Lm (by omega), K1, .bl true, by rw [hP, eqv_Lm, decide_eq_true rfl], by decide, rfl, rfl, ifF nf ?_⟩
  refine ifS (fun _ => ⟨by decide, by decide, ?_⟩) (fun _ => ⟨by decide, by decide, ?_⟩)
  all_goals refine ⟨fun _ ρ => ∃ x9 x10 x11 x12 x13 x14 x15 x16 x17, ρ = [Ent.ow 0 (T.scr ns), Ent.ow 1 (Li [a1, pb, c1]), Ent.ow 0 (T.int n), Ent.ow 0 (Lm m), Ent.ow 0 (Li own), Ent.ow 0 (T.lst (List.map T.int (owedF m))), Ent.ow 0 (Lm P), Ent.ow 0 (Lm U), Ent.ow 0 (T.lst [Lm m, T.lst (List.map T.int own)]), x9, x10, x11, x12, x13, x14, x15, x16, x17], ⟨_, _, _, _, _, _, _, _, _, rfl⟩, fun i t ρ hi hI => ?_, fun ρ hI => ?_⟩
  all_goals obtain ⟨x9, x10, x11, x12, x13, x14, x15, x16, x17, rfl⟩ := hI
  · obtain ⟨hlt, rfl⟩ := rgT_get.mp hi
    simp -dsimp only [↓uSeq, ↓uNext, ↓uFor, ↓uSt, ↓uStV, ↓uAu, ↓uAp, ↓uApMv, ↓uAuN, ↓uAlias, ↓uDem, ↓uBrk, ↓uCnt, ↓uNev, ↓uRet, ↓uRetN, ↓uExp, ↓uExpP, ↓uSet, ↓uSetR, ↓uIf, ↓wVar, ↓wVarV, ↓wC, ↓w1, ↓w2, ↓wT, asB, ↓wChain, ↓wNil, ↓wCons, ↓wAnd, ↓wOr, ↓wNot, ↓wAndV, ↓wOrV, ↓wNotV, ↓wIf, ↓wCallP, ↓wCallV, ↓wCa, ↓wTup, ↓wLst, ↓oNon, ↓oSom, ↓wSlice, ↓wRev, ↓vP, ↓vSh, ↓vFit, ↓vaNil, ↓vaCons, ↓vLst, ↓vTup, ↓vTup0, ↓vList, ↓vRep, ↓vSlice, ↓cSl, ↓vCallN, ↓v1, ↓vCa, ↓vIx, ↓tP, ↓vAnd, ↓vOr, ↓vNot, ↓vIf, ↓vT, ↓v2, ↓vLc, ↓gI2, ↓gI2c, ↓gLen, ↓gII, ↓gI, ↓gInt1, ↓gRep, ↓gCat, ↓gKids, ↓gIn, ↓iLst, ↓TL.iTup, ↓TL.iRng1, ↓TL.iRng2, ↓iEn, ↓iZp, ↓hName, ↓hCons, ↓hNil, ↓hTup, ↓wSl, ↓wIsi, ↓wYes, rho0, iniE, entOf, allSh, List.replicate, List.length_cons, List.length_nil, Nat.reduceAdd, Nat.reduceSub, Nat.reduceLT, Nat.reduceLeDiff, List.cons_append, List.nil_append, List.getElem?_cons_zero, List.getElem?_cons_succ, Option.bind_some, Ent.tr, Ent.own, Ent.put, setE, killA, noAl_ow, noAl_io1, noAl_no, noAl_ro, noAl_al', killJ_cons, killJ_nil0, noRo_ow, noRo_io, noRo_no, noRo_al, mem1, notIn, noRA_ow, noRA_io, noRA_no, noRA_al, Plc, demE, List.foldl_cons, List.foldl_nil, List.map_cons, List.map_nil, List.set_cons_zero, List.set_cons_succ, endsOf, ↓outsOf, Option.map_some, plSet, TL.putAt, T.put, true_and, and_true, lst_set, lst_snoc, lm_set, lm_snoc, shOnly, shE_ow0, shE_ow1, shE_io, shE_no, Option.isSome_some, reduceIte, if_true, if_false, Bool.false_eq_true, Nat.reduceEqDiff]
    refine ⟨ns, 3 + (0 + (i : Int)), 92, rfl, by omega, fun pa4 pb4 => ⟨flatAt_Li, .inl (Nat.le_refl _), fit0, fit0, callOther hP0 hPl hUl (by omega) n6 hPr hUr fun o ol hor => ?_⟩⟩
    have sO : smlT (Lm o) = true := sml_Lm (by omega) fun r hr => by have := hor r hr; omega
    simp -dsimp only [gh0, gh1, ↓uSeq, ↓uNext, ↓uFor, ↓uSt, ↓uStV, ↓uAu, ↓uAp, ↓uApMv, ↓uAuN, ↓uAlias, ↓uDem, ↓uBrk, ↓uCnt, ↓uNev, ↓uRet, ↓uRetN, ↓uExp, ↓uExpP, ↓uSet, ↓uSetR, ↓uIf, ↓wVar, ↓wVarV, ↓wC, ↓w1, ↓w2, ↓wT, asB, ↓wChain, ↓wNil, ↓wCons, ↓wAnd, ↓wOr, ↓wNot, ↓wAndV, ↓wOrV, ↓wNotV, ↓wIf, ↓wCallP, ↓wCallV, ↓wCa, ↓wTup, ↓wLst, ↓oNon, ↓oSom, ↓wSlice, ↓wRev, ↓vP, ↓vSh, ↓vFit, ↓vaNil, ↓vaCons, ↓vLst, ↓vTup, ↓vTup0, ↓vList, ↓vRep, ↓vSlice, ↓cSl, ↓vCallN, ↓v1, ↓vCa, ↓vIx, ↓tP, ↓vAnd, ↓vOr, ↓vNot, ↓vIf, ↓vT, ↓v2, ↓vLc, ↓gI2, ↓gI2c, ↓gLen, ↓gII, ↓gI, ↓gInt1, ↓gRep, ↓gCat, ↓gKids, ↓gIn, ↓iLst, ↓TL.iTup, ↓TL.iRng1, ↓TL.iRng2, ↓iEn, ↓iZp, ↓hName, ↓hCons, ↓hNil, ↓hTup, ↓wSl, ↓wIsi, ↓wYes, rho0, iniE, entOf, allSh, List.replicate, List.length_cons, List.length_nil, Nat.reduceAdd, Nat.reduceSub, Nat.reduceLT, Nat.reduceLeDiff, List.cons_append, List.nil_append, List.getElem?_cons_zero, List.getElem?_cons_succ, Option.bind_some, Ent.tr, Ent.own, Ent.put, setE, killA, noAl_ow, noAl_io1, noAl_no, noAl_ro, noAl_al', killJ_cons, killJ_nil0, noRo_ow, noRo_io, noRo_no, noRo_al, mem1, notIn, noRA_ow, noRA_io, noRA_no, noRA_al, Plc, demE, List.foldl_cons, List.foldl_nil, List.map_cons, List.map_nil, List.set_cons_zero, List.set_cons_succ, endsOf, ↓outsOf, Option.map_some, plSet, TL.putAt, T.put, true_and, and_true, lst_set, lst_snoc, lm_set, lm_snoc, shOnly, shE_ow0, shE_ow1, shE_io, shE_no, Option.isSome_some, reduceIte, if_true, if_false, Bool.false_eq_true, Nat.reduceEqDiff]
    refine ⟨o, rfl, by omega, flatAt_Lm, m, rfl, by omega, ?_⟩
    simp -dsimp only [gh0, gh1, ↓uSeq, ↓uNext, ↓uFor, ↓uSt, ↓uStV, ↓uAu, ↓uAp, ↓uApMv, ↓uAuN, ↓uAlias, ↓uDem, ↓uBrk, ↓uCnt, ↓uNev, ↓uRet, ↓uRetN, ↓uExp, ↓uExpP, ↓uSet, ↓uSetR, ↓uIf, ↓wVar, ↓wVarV, ↓wC, ↓w1, ↓w2, ↓wT, asB, ↓wChain, ↓wNil, ↓wCons, ↓wAnd, ↓wOr, ↓wNot, ↓wAndV, ↓wOrV, ↓wNotV, ↓wIf, ↓wCallP, ↓wCallV, ↓wCa, ↓wTup, ↓wLst, ↓oNon, ↓oSom, ↓wSlice, ↓wRev, ↓vP, ↓vSh, ↓vFit, ↓vaNil, ↓vaCons, ↓vLst, ↓vTup, ↓vTup0, ↓vList, ↓vRep, ↓vSlice, ↓cSl, ↓vCallN, ↓v1, ↓vCa, ↓vIx, ↓tP, ↓vAnd, ↓vOr, ↓vNot, ↓vIf, ↓vT, ↓v2, ↓vLc, ↓gI2, ↓gI2c, ↓gLen, ↓gII, ↓gI, ↓gInt1, ↓gRep, ↓gCat, ↓gKids, ↓gIn, ↓iLst, ↓TL.iTup, ↓TL.iRng1, ↓TL.iRng2, ↓iEn, ↓iZp, ↓hName, ↓hCons, ↓hNil, ↓hTup, ↓wSl, ↓wIsi, ↓wYes, rho0, iniE, entOf, allSh, List.replicate, List.length_cons, List.length_nil, Nat.reduceAdd, Nat.reduceSub, Nat.reduceLT, Nat.reduceLeDiff, List.cons_append, List.nil_append, List.getElem?_cons_zero, List.getElem?_cons_succ, Option.bind_some, Ent.tr, Ent.own, Ent.put, setE, killA, noAl_ow, noAl_io1, noAl_no, noAl_ro, noAl_al', killJ_cons, killJ_nil0, noRo_ow, noRo_io, noRo_no, noRo_al, mem1, notIn, noRA_ow, noRA_io, noRA_no, noRA_al, Plc, demE, List.foldl_cons, List.foldl_nil, List.map_cons, List.map_nil, List.set_cons_zero, List.set_cons_succ, endsOf, ↓outsOf, Option.map_some, plSet, TL.putAt, T.put, true_and, and_true, lst_set, lst_snoc, lm_set, lm_snoc, shOnly, shE_ow0, shE_ow1, shE_io, shE_no, Option.isSome_some, reduceIte, if_true, if_false, Bool.false_eq_true, Nat.reduceEqDiff]
    refine ⟨m, own, dp, Lm o, rfl, okd_eqok (n := 2) okd_Lm (by omega), K1, rfl, okd_eqok (n := 2) okd_Lm (by omega), okd_eqok (n := 2) okd_Lm (by omega), T.lst [.bl ((Lm o).eqv (Lm P)), Lm o], by rw [hP], by decide, okd_pair rfl okd_Lm, sml_pair rfl sO, ifF nf ?_⟩
    exact ⟨_, _, _, _, _, _, _, _, _, rfl⟩
  · simp -dsimp only [gh0, gh1, ↓uSeq, ↓uNext, ↓uFor, ↓uSt, ↓uStV, ↓uAu, ↓uAp, ↓uApMv, ↓uAuN, ↓uAlias, ↓uDem, ↓uBrk, ↓uCnt, ↓uNev, ↓uRet, ↓uRetN, ↓uExp, ↓uExpP, ↓uSet, ↓uSetR, ↓uIf, ↓wVar, ↓wVarV, ↓wC, ↓w1, ↓w2, ↓wT, asB, ↓wChain, ↓wNil, ↓wCons, ↓wAnd, ↓wOr, ↓wNot, ↓wAndV, ↓wOrV, ↓wNotV, ↓wIf, ↓wCallP, ↓wCallV, ↓wCa, ↓wTup, ↓wLst, ↓oNon, ↓oSom, ↓wSlice, ↓wRev, ↓vP, ↓vSh, ↓vFit, ↓vaNil, ↓vaCons, ↓vLst, ↓vTup, ↓vTup0, ↓vList, ↓vRep, ↓vSlice, ↓cSl, ↓vCallN, ↓v1, ↓vCa, ↓vIx, ↓tP, ↓vAnd, ↓vOr, ↓vNot, ↓vIf, ↓vT, ↓v2, ↓vLc, ↓gI2, ↓gI2c, ↓gLen, ↓gII, ↓gI, ↓gInt1, ↓gRep, ↓gCat, ↓gKids, ↓gIn, ↓iLst, ↓TL.iTup, ↓TL.iRng1, ↓TL.iRng2, ↓iEn, ↓iZp, ↓hName, ↓hCons, ↓hNil, ↓hTup, ↓wSl, ↓wIsi, ↓wYes, rho0, iniE, entOf, allSh, List.replicate, List.length_cons, List.length_nil, Nat.reduceAdd, Nat.reduceSub, Nat.reduceLT, Nat.reduceLeDiff, List.cons_append, List.nil_append, List.getElem?_cons_zero, List.getElem?_cons_succ, Option.bind_some, Ent.tr, Ent.own, Ent.put, setE, killA, noAl_ow, noAl_io1, noAl_no, noAl_ro, noAl_al', killJ_cons, killJ_nil0, noRo_ow, noRo_io, noRo_no, noRo_al, mem1, notIn, noRA_ow, noRA_io, noRA_no, noRA_al, Plc, demE, List.foldl_cons, List.foldl_nil, List.map_cons, List.map_nil, List.set_cons_zero, List.set_cons_succ, endsOf, ↓outsOf, Option.map_some, plSet, TL.putAt, T.put, true_and, and_true, lst_set, lst_snoc, lm_set, lm_snoc, shOnly, shE_ow0, shE_ow1, shE_io, shE_no, Option.isSome_some, reduceIte, if_true, if_false, Bool.false_eq_true, Nat.reduceEqDiff]
    obtain ⟨less, hless⟩ : ∃ less : List Int, less = own.map fun x => if x - 1 > 0 then x - 1 else 0 := ⟨_, rfl⟩
    have hll : less.length = own.length := by rw [hless, List.length_map]
    have hlo : ∀ x ∈ less, 0 ≤ x := fun x hx => by
      rw [hless] at hx
      obtain ⟨y, _, rfl⟩ := List.mem_map.mp hx
      show 0 ≤ if y - 1 > 0 then y - 1 else 0
      split <;> omega
    have hm3 : Okm m less := ⟨by omega, by omega, by omega, fun r hr => ⟨by rw [(hm.row r hr).1, hll], (hm.row r hr).2⟩, hm.sm⟩
    obtain ⟨d3, K3⟩ := okall_owed hm3 hlo
    refine ⟨fun i acc ρ => ∃ as x9 x10 x11 x12 x13 x14 x15 x16, acc = List.map T.int as ∧ as = less.take i ∧ ρ = [Ent.ow 0 (T.scr ns), Ent.ow 1 (Li [a1, pb, c1]), Ent.ow 0 (T.int n), Ent.ow 0 (Lm m), Ent.ow 0 (Li own), Ent.ow 0 (T.lst (List.map T.int (owedF m))), Ent.ow 0 (Lm P), Ent.ow 0 (Lm U), Ent.ow 0 (T.lst [Lm m, T.lst (List.map T.int own)]), x9, x10, x11, x12, x13, x14, x15, x16, Ent.no], ⟨[], _, _, _, _, _, _, _, _, rfl, rfl, rfl⟩, fun i t acc ρ hi hI => ?_, fun acc ρ hI => ?_⟩
    · obtain ⟨as, x9, x10, x11, x12, x13, x14, x15, x16, rfl, ha, rfl⟩ := hI
      obtain ⟨x, hx, rfl⟩ := mapint_get.mp hi
      have il := (List.getElem?_eq_some_iff.mp hx).1
      simp -dsimp only [↓uSeq, ↓uNext, ↓uFor, ↓uSt, ↓uStV, ↓uAu, ↓uAp, ↓uApMv, ↓uAuN, ↓uAlias, ↓uDem, ↓uBrk, ↓uCnt, ↓uNev, ↓uRet, ↓uRetN, ↓uExp, ↓uExpP, ↓uSet, ↓uSetR, ↓uIf, ↓wVar, ↓wVarV, ↓wC, ↓w1, ↓w2, ↓wT, asB, ↓wChain, ↓wNil, ↓wCons, ↓wAnd, ↓wOr, ↓wNot, ↓wAndV, ↓wOrV, ↓wNotV, ↓wIf, ↓wCallP, ↓wCallV, ↓wCa, ↓wTup, ↓wLst, ↓oNon, ↓oSom, ↓wSlice, ↓wRev, ↓vP, ↓vSh, ↓vFit, ↓vaNil, ↓vaCons, ↓vLst, ↓vTup, ↓vTup0, ↓vList, ↓vRep, ↓vSlice, ↓cSl, ↓vCallN, ↓v1, ↓vCa, ↓vIx, ↓tP, ↓vAnd, ↓vOr, ↓vNot, ↓vIf, ↓vT, ↓v2, ↓vLc, ↓gI2, ↓gI2c, ↓gLen, ↓gII, ↓gI, ↓gInt1, ↓gRep, ↓gCat, ↓gKids, ↓gIn, ↓iLst, ↓TL.iTup, ↓TL.iRng1, ↓TL.iRng2, ↓iEn, ↓iZp, ↓hName, ↓hCons, ↓hNil, ↓hTup, ↓wSl, ↓wIsi, ↓wYes, rho0, iniE, entOf, allSh, List.replicate, List.length_cons, List.length_nil, Nat.reduceAdd, Nat.reduceSub, Nat.reduceLT, Nat.reduceLeDiff, List.cons_append, List.nil_append, List.getElem?_cons_zero, List.getElem?_cons_succ, Option.bind_some, Ent.tr, Ent.own, Ent.put, setE, killA, noAl_ow, noAl_io1, noAl_no, noAl_ro, noAl_al', killJ_cons, killJ_nil0, noRo_ow, noRo_io, noRo_no, noRo_al, mem1, notIn, noRA_ow, noRA_io, noRA_no, noRA_al, Plc, demE, List.foldl_cons, List.foldl_nil, List.map_cons, List.map_nil, List.set_cons_zero, List.set_cons_succ, endsOf, ↓outsOf, Option.map_some, plSet, TL.putAt, T.put, true_and, and_true, lst_set, lst_snoc, lm_set, lm_snoc, shOnly, shE_ow0, shE_ow1, shE_io, shE_no, Option.isSome_some, reduceIte, if_true, if_false, Bool.false_eq_true, Nat.reduceEqDiff]
      refine ⟨rfl, fit0, ?_, as ++ [if x - 1 > 0 then x - 1 else 0], _, _, _, _, _, _, _, _, by rw [List.map_append]; rfl, ?_, rfl⟩
      · subst ha; simp; omega
      · rw [ha]
        exact take_snoc (by rw [hless, List.getElem?_map, hx]; rfl)
    · obtain ⟨as, x9, x10, x11, x12, x13, x14, x15, x16, rfl, ha, rfl⟩ := hI
      rw [List.length_map, ← hll, take_len] at ha
      rw [ha]
      simp -dsimp only [gh0, gh1, ↓uSeq, ↓uNext, ↓uFor, ↓uSt, ↓uStV, ↓uAu, ↓uAp, ↓uApMv, ↓uAuN, ↓uAlias, ↓uDem, ↓uBrk, ↓uCnt, ↓uNev, ↓uRet, ↓uRetN, ↓uExp, ↓uExpP, ↓uSet, ↓uSetR, ↓uIf, ↓wVar, ↓wVarV, ↓wC, ↓w1, ↓w2, ↓wT, asB, ↓wChain, ↓wNil, ↓wCons, ↓wAnd, ↓wOr, ↓wNot, ↓wAndV, ↓wOrV, ↓wNotV, ↓wIf, ↓wCallP, ↓wCallV, ↓wCa, ↓wTup, ↓wLst, ↓oNon, ↓oSom, ↓wSlice, ↓wRev, ↓vP, ↓vSh, ↓vFit, ↓vaNil, ↓vaCons, ↓vLst, ↓vTup, ↓vTup0, ↓vList, ↓vRep, ↓vSlice, ↓cSl, ↓vCallN, ↓v1, ↓vCa, ↓vIx, ↓tP, ↓vAnd, ↓vOr, ↓vNot, ↓vIf, ↓vT, ↓v2, ↓vLc, ↓gI2, ↓gI2c, ↓gLen, ↓gII, ↓gI, ↓gInt1, ↓gRep, ↓gCat, ↓gKids, ↓gIn, ↓iLst, ↓TL.iTup, ↓TL.iRng1, ↓TL.iRng2, ↓iEn, ↓iZp, ↓hName, ↓hCons, ↓hNil, ↓hTup, ↓wSl, ↓wIsi, ↓wYes, rho0, iniE, entOf, allSh, List.replicate, List.length_cons, List.length_nil, Nat.reduceAdd, Nat.reduceSub, Nat.reduceLT, Nat.reduceLeDiff, List.cons_append, List.nil_append, List.getElem?_cons_zero, List.getElem?_cons_succ, Option.bind_some, Ent.tr, Ent.own, Ent.put, setE, killA, noAl_ow, noAl_io1, noAl_no, noAl_ro, noAl_al', killJ_cons, killJ_nil0, noRo_ow, noRo_io, noRo_no, noRo_al, mem1, notIn, noRA_ow, noRA_io, noRA_no, noRA_al, Plc, demE, List.foldl_cons, List.foldl_nil, List.map_cons, List.map_nil, List.set_cons_zero, List.set_cons_succ, endsOf, ↓outsOf, Option.map_some, plSet, TL.putAt, T.put, true_and, and_true, lst_set, lst_snoc, lm_set, lm_snoc, shOnly, shE_ow0, shE_ow1, shE_io, shE_no, Option.isSome_some, reduceIte, if_true, if_false, Bool.false_eq_true, Nat.reduceEqDiff]
      refine ⟨m, rfl, by omega, ?_⟩
      simp -dsimp only [gh0, gh1, ↓uSeq, ↓uNext, ↓uFor, ↓uSt, ↓uStV, ↓uAu, ↓uAp, ↓uApMv, ↓uAuN, ↓uAlias, ↓uDem, ↓uBrk, ↓uCnt, ↓uNev, ↓uRet, ↓uRetN, ↓uExp, ↓uExpP, ↓uSet, ↓uSetR, ↓uIf, ↓wVar, ↓wVarV, ↓wC, ↓w1, ↓w2, ↓wT, asB, ↓wChain, ↓wNil, ↓wCons, ↓wAnd, ↓wOr, ↓wNot, ↓wAndV, ↓wOrV, ↓wNotV, ↓wIf, ↓wCallP, ↓wCallV, ↓wCa, ↓wTup, ↓wLst, ↓oNon, ↓oSom, ↓wSlice, ↓wRev, ↓vP, ↓vSh, ↓vFit, ↓vaNil, ↓vaCons, ↓vLst, ↓vTup, ↓vTup0, ↓vList, ↓vRep, ↓vSlice, ↓cSl, ↓vCallN, ↓v1, ↓vCa, ↓vIx, ↓tP, ↓vAnd, ↓vOr, ↓vNot, ↓vIf, ↓vT, ↓v2, ↓vLc, ↓gI2, ↓gI2c, ↓gLen, ↓gII, ↓gI, ↓gInt1, ↓gRep, ↓gCat, ↓gKids, ↓gIn, ↓iLst, ↓TL.iTup, ↓TL.iRng1, ↓TL.iRng2, ↓iEn, ↓iZp, ↓hName, ↓hCons, ↓hNil, ↓hTup, ↓wSl, ↓wIsi, ↓wYes, rho0, iniE, entOf, allSh, List.replicate, List.length_cons, List.length_nil, Nat.reduceAdd, Nat.reduceSub, Nat.reduceLT, Nat.reduceLeDiff, List.cons_append, List.nil_append, List.getElem?_cons_zero, List.getElem?_cons_succ, Option.bind_some, Ent.tr, Ent.own, Ent.put, setE, killA, noAl_ow, noAl_io1, noAl_no, noAl_ro, noAl_al', killJ_cons, killJ_nil0, noRo_ow, noRo_io, noRo_no, noRo_al, mem1, notIn, noRA_ow, noRA_io, noRA_no, noRA_al, Plc, demE, List.foldl_cons, List.foldl_nil, List.map_cons, List.map_nil, List.set_cons_zero, List.set_cons_succ, endsOf, ↓outsOf, Option.map_some, plSet, TL.putAt, T.put, true_and, and_true, lst_set, lst_snoc, lm_set, lm_snoc, shOnly, shE_ow0, shE_ow1, shE_io, shE_no, Option.isSome_some, reduceIte, if_true, if_false, Bool.false_eq_true, Nat.reduceEqDiff]
      refine ⟨m, less, d3, rfl, K3, m, less, owedF m, d3, rfl, K3, gIx_last (getLast_map planF_last) ⟨_, rfl, by decide, okd_Li, sml_Li (by rw [(K3.q d3).len]; omega), rfl, h⟩⟩
  · obtain ⟨hlt, rfl⟩ := rgT_get.mp hi
    simp -dsimp only [↓uSeq, ↓uNext, ↓uFor, ↓uSt, ↓uStV, ↓uAu, ↓uAp, ↓uApMv, ↓uAuN, ↓uAlias, ↓uDem, ↓uBrk, ↓uCnt, ↓uNev, ↓uRet, ↓uRetN, ↓uExp, ↓uExpP, ↓uSet, ↓uSetR, ↓uIf, ↓wVar, ↓wVarV, ↓wC, ↓w1, ↓w2, ↓wT, asB, ↓wChain, ↓wNil, ↓wCons, ↓wAnd, ↓wOr, ↓wNot, ↓wAndV, ↓wOrV, ↓wNotV, ↓wIf, ↓wCallP, ↓wCallV, ↓wCa, ↓wTup, ↓wLst, ↓oNon, ↓oSom, ↓wSlice, ↓wRev, ↓vP, ↓vSh, ↓vFit, ↓vaNil, ↓vaCons, ↓vLst, ↓vTup, ↓vTup0, ↓vList, ↓vRep, ↓vSlice, ↓cSl, ↓vCallN, ↓v1, ↓vCa, ↓vIx, ↓tP, ↓vAnd, ↓vOr, ↓vNot, ↓vIf, ↓vT, ↓v2, ↓vLc, ↓gI2, ↓gI2c, ↓gLen, ↓gII, ↓gI, ↓gInt1, ↓gRep, ↓gCat, ↓gKids, ↓gIn, ↓iLst, ↓TL.iTup, ↓TL.iRng1, ↓TL.iRng2, ↓iEn, ↓iZp, ↓hName, ↓hCons, ↓hNil, ↓hTup, ↓wSl, ↓wIsi, ↓wYes, rho0, iniE, entOf, allSh, List.replicate, List.length_cons, List.length_nil, Nat.reduceAdd, Nat.reduceSub, Nat.reduceLT, Nat.reduceLeDiff, List.cons_append, List.nil_append, List.getElem?_cons_zero, List.getElem?_cons_succ, Option.bind_some, Ent.tr, Ent.own, Ent.put, setE, killA, noAl_ow, noAl_io1, noAl_no, noAl_ro, noAl_al', killJ_cons, killJ_nil0, noRo_ow, noRo_io, noRo_no, noRo_al, mem1, notIn, noRA_ow, noRA_io, noRA_no, noRA_al, Plc, demE, List.foldl_cons, List.foldl_nil, List.map_cons, List.map_nil, List.set_cons_zero, List.set_cons_succ, endsOf, ↓outsOf, Option.map_some, plSet, TL.putAt, T.put, true_and, and_true, lst_set, lst_snoc, lm_set, lm_snoc, shOnly, shE_ow0, shE_ow1, shE_io, shE_no, Option.isSome_some, reduceIte, if_true, if_false, Bool.false_eq_true, Nat.reduceEqDiff]
    refine ⟨ns, 3 + (0 + (i : Int)), 92, rfl, by omega, fun pa4 pb4 => ⟨flatAt_Li, .inl (Nat.le_refl _), fit0, fit0, callOther hP0 hPl hUl (by omega) n6 hPr hUr fun o ol hor => ?_⟩⟩
    have sO : smlT (Lm o) = true := sml_Lm (by omega) fun r hr => by have := hor r hr; omega
    simp -dsimp only [gh0, gh1, ↓uSeq, ↓uNext, ↓uFor, ↓uSt, ↓uStV, ↓uAu, ↓uAp, ↓uApMv, ↓uAuN, ↓uAlias, ↓uDem, ↓uBrk, ↓uCnt, ↓uNev, ↓uRet, ↓uRetN, ↓uExp, ↓uExpP, ↓uSet, ↓uSetR, ↓uIf, ↓wVar, ↓wVarV, ↓wC, ↓w1, ↓w2, ↓wT, asB, ↓wChain, ↓wNil, ↓wCons, ↓wAnd, ↓wOr, ↓wNot, ↓wAndV, ↓wOrV, ↓wNotV, ↓wIf, ↓wCallP, ↓wCallV, ↓wCa, ↓wTup, ↓wLst, ↓oNon, ↓oSom, ↓wSlice, ↓wRev, ↓vP, ↓vSh, ↓vFit, ↓vaNil, ↓vaCons, ↓vLst, ↓vTup, ↓vTup0, ↓vList, ↓vRep, ↓vSlice, ↓cSl, ↓vCallN, ↓v1, ↓vCa, ↓vIx, ↓tP, ↓vAnd, ↓vOr, ↓vNot, ↓vIf, ↓vT, ↓v2, ↓vLc, ↓gI2, ↓gI2c, ↓gLen, ↓gII, ↓gI, ↓gInt1, ↓gRep, ↓gCat, ↓gKids, ↓gIn, ↓iLst, ↓TL.iTup, ↓TL.iRng1, ↓TL.iRng2, ↓iEn, ↓iZp, ↓hName, ↓hCons, ↓hNil, ↓hTup, ↓wSl, ↓wIsi, ↓wYes, rho0, iniE, entOf, allSh, List.replicate, List.length_cons, List.length_nil, Nat.reduceAdd, Nat.reduceSub, Nat.reduceLT, Nat.reduceLeDiff, List.cons_append, List.nil_append, List.getElem?_cons_zero, List.getElem?_cons_succ, Option.bind_some, Ent.tr, Ent.own, Ent.put, setE, killA, noAl_ow, noAl_io1, noAl_no, noAl_ro, noAl_al', killJ_cons, killJ_nil0, noRo_ow, noRo_io, noRo_no, noRo_al, mem1, notIn, noRA_ow, noRA_io, noRA_no, noRA_al, Plc, demE, List.foldl_cons, List.foldl_nil, List.map_cons, List.map_nil, List.set_cons_zero, List.set_cons_succ, endsOf, ↓outsOf, Option.map_some, plSet, TL.putAt, T.put, true_and, and_true, lst_set, lst_snoc, lm_set, lm_snoc, shOnly, shE_ow0, shE_ow1, shE_io, shE_no, Option.isSome_some, reduceIte, if_true, if_false, Bool.false_eq_true, Nat.reduceEqDiff]
    refine ⟨o, rfl, by omega, flatAt_Lm, m, rfl, by omega, ?_⟩
    simp -dsimp only [gh0, gh1, ↓uSeq, ↓uNext, ↓uFor, ↓uSt, ↓uStV, ↓uAu, ↓uAp, ↓uApMv, ↓uAuN, ↓uAlias, ↓uDem, ↓uBrk, ↓uCnt, ↓uNev, ↓uRet, ↓uRetN, ↓uExp, ↓uExpP, ↓uSet, ↓uSetR, ↓uIf, ↓wVar, ↓wVarV, ↓wC, ↓w1, ↓w2, ↓wT, asB, ↓wChain, ↓wNil, ↓wCons, ↓wAnd, ↓wOr, ↓wNot, ↓wAndV, ↓wOrV, ↓wNotV, ↓wIf, ↓wCallP, ↓wCallV, ↓wCa, ↓wTup, ↓wLst, ↓oNon, ↓oSom, ↓wSlice, ↓wRev, ↓vP, ↓vSh, ↓vFit, ↓vaNil, ↓vaCons, ↓vLst, ↓vTup, ↓vTup0, ↓vList, ↓vRep, ↓vSlice, ↓cSl, ↓vCallN, ↓v1, ↓vCa, ↓vIx, ↓tP, ↓vAnd, ↓vOr, ↓vNot, ↓vIf, ↓vT, ↓v2, ↓vLc, ↓gI2, ↓gI2c, ↓gLen, ↓gII, ↓gI, ↓gInt1, ↓gRep, ↓gCat, ↓gKids, ↓gIn, ↓iLst, ↓TL.iTup, ↓TL.iRng1, ↓TL.iRng2, ↓iEn, ↓iZp, ↓hName, ↓hCons, ↓hNil, ↓hTup, ↓wSl, ↓wIsi, ↓wYes, rho0, iniE, entOf, allSh, List.replicate, List.length_cons, List.length_nil, Nat.reduceAdd, Nat.reduceSub, Nat.reduceLT, Nat.reduceLeDiff, List.cons_append, List.nil_append, List.getElem?_cons_zero, List.getElem?_cons_succ, Option.bind_some, Ent.tr, Ent.own, Ent.put, setE, killA, noAl_ow, noAl_io1, noAl_no, noAl_ro, noAl_al', killJ_cons, killJ_nil0, noRo_ow, noRo_io, noRo_no, noRo_al, mem1, notIn, noRA_ow, noRA_io, noRA_no, noRA_al, Plc, demE, List.foldl_cons, List.foldl_nil, List.map_cons, List.map_nil, List.set_cons_zero, List.set_cons_succ, endsOf, ↓outsOf, Option.map_some, plSet, TL.putAt, T.put, true_and, and_true, lst_set, lst_snoc, lm_set, lm_snoc, shOnly, shE_ow0, shE_ow1, shE_io, shE_no, Option.isSome_some, reduceIte, if_true, if_false, Bool.false_eq_true, Nat.reduceEqDiff]
    refine ⟨m, own, dp, Lm o, rfl, okd_eqok (n := 2) okd_Lm (by omega), K1, rfl, okd_eqok (n := 2) okd_Lm (by omega), okd_eqok (n := 2) okd_Lm (by omega), T.lst [.bl ((Lm o).eqv (Lm P)), Lm o], by rw [hP], by decide, okd_pair rfl okd_Lm, sml_pair rfl sO, ifF nf ?_⟩
    exact ⟨_, _, _, _, _, _, _, _, _, rfl⟩
  · simp -dsimp only [gh0, gh1, ↓uSeq, ↓uNext, ↓uFor, ↓uSt, ↓uStV, ↓uAu, ↓uAp, ↓uApMv, ↓uAuN, ↓uAlias, ↓uDem, ↓uBrk, ↓uCnt, ↓uNev, ↓uRet, ↓uRetN, ↓uExp, ↓uExpP, ↓uSet, ↓uSetR, ↓uIf, ↓wVar, ↓wVarV, ↓wC, ↓w1, ↓w2, ↓wT, asB, ↓wChain, ↓wNil, ↓wCons, ↓wAnd, ↓wOr, ↓wNot, ↓wAndV, ↓wOrV, ↓wNotV, ↓wIf, ↓wCallP, ↓wCallV, ↓wCa, ↓wTup, ↓wLst, ↓oNon, ↓oSom, ↓wSlice, ↓wRev, ↓vP, ↓vSh, ↓vFit, ↓vaNil, ↓vaCons, ↓vLst, ↓vTup, ↓vTup0, ↓vList, ↓vRep, ↓vSlice, ↓cSl, ↓vCallN, ↓v1, ↓vCa, ↓vIx, ↓tP, ↓vAnd, ↓vOr, ↓vNot, ↓vIf, ↓vT, ↓v2, ↓vLc, ↓gI2, ↓gI2c, ↓gLen, ↓gII, ↓gI, ↓gInt1, ↓gRep, ↓gCat, ↓gKids, ↓gIn, ↓iLst, ↓TL.iTup, ↓TL.iRng1, ↓TL.iRng2, ↓iEn, ↓iZp, ↓hName, ↓hCons, ↓hNil, ↓hTup, ↓wSl, ↓wIsi, ↓wYes, rho0, iniE, entOf, allSh, List.replicate, List.length_cons, List.length_nil, Nat.reduceAdd, Nat.reduceSub, Nat.reduceLT, Nat.reduceLeDiff, List.cons_append, List.nil_append, List.getElem?_cons_zero, List.getElem?_cons_succ, Option.bind_some, Ent.tr, Ent.own, Ent.put, setE, killA, noAl_ow, noAl_io1, noAl_no, noAl_ro, noAl_al', killJ_cons, killJ_nil0, noRo_ow, noRo_io, noRo_no, noRo_al, mem1, notIn, noRA_ow, noRA_io, noRA_no, noRA_al, Plc, demE, List.foldl_cons, List.foldl_nil, List.map_cons, List.map_nil, List.set_cons_zero, List.set_cons_succ, endsOf, ↓outsOf, Option.map_some, plSet, TL.putAt, T.put, true_and, and_true, lst_set, lst_snoc, lm_set, lm_snoc, shOnly, shE_ow0, shE_ow1, shE_io, shE_no, Option.isSome_some, reduceIte, if_true, if_false, Bool.false_eq_true, Nat.reduceEqDiff]
    obtain ⟨less, hless⟩ : ∃ less : List Int, less = own.map fun x => if x - 1 > 0 then x - 1 else 0 := ⟨_, rfl⟩
    have hll : less.length = own.length := by rw [hless, List.length_map]
    have hlo : ∀ x ∈ less, 0 ≤ x := fun x hx => by
      rw [hless] at hx
      obtain ⟨y, _, rfl⟩ := List.mem_map.mp hx
      show 0 ≤ if y - 1 > 0 then y - 1 else 0
      split <;> omega
    have hm3 : Okm m less := ⟨by omega, by omega, by omega, fun r hr => ⟨by rw [(hm.row r hr).1, hll], (hm.row r hr).2⟩, hm.sm⟩
    obtain ⟨d3, K3⟩ := okall_owed hm3 hlo
    refine ⟨fun i acc ρ => ∃ as x9 x10 x11 x12 x13 x14 x15 x16, acc = List.map T.int as ∧ as = less.take i ∧ ρ = [Ent.ow 0 (T.scr ns), Ent.ow 1 (Li [a1, pb, c1]), Ent.ow 0 (T.int n), Ent.ow 0 (Lm m), Ent.ow 0 (Li own), Ent.ow 0 (T.lst (List.map T.int (owedF m))), Ent.ow 0 (Lm P), Ent.ow 0 (Lm U), Ent.ow 0 (T.lst [Lm m, T.lst (List.map T.int own)]), x9, x10, x11, x12, x13, x14, x15, x16, Ent.no], ⟨[], _, _, _, _, _, _, _, _, rfl, rfl, rfl⟩, fun i t acc ρ hi hI => ?_, fun acc ρ hI => ?_⟩
    · obtain ⟨as, x9, x10, x11, x12, x13, x14, x15, x16, rfl, ha, rfl⟩ := hI
      obtain ⟨x, hx, rfl⟩ := mapint_get.mp hi
      have il := (List.getElem?_eq_some_iff.mp hx).1
      simp -dsimp only [↓uSeq, ↓uNext, ↓uFor, ↓uSt, ↓uStV, ↓uAu, ↓uAp, ↓uApMv, ↓uAuN, ↓uAlias, ↓uDem, ↓uBrk, ↓uCnt, ↓uNev, ↓uRet, ↓uRetN, ↓uExp, ↓uExpP, ↓uSet, ↓uSetR, ↓uIf, ↓wVar, ↓wVarV, ↓wC, ↓w1, ↓w2, ↓wT, asB, ↓wChain, ↓wNil, ↓wCons, ↓wAnd, ↓wOr, ↓wNot, ↓wAndV, ↓wOrV, ↓wNotV, ↓wIf, ↓wCallP, ↓wCallV, ↓wCa, ↓wTup, ↓wLst, ↓oNon, ↓oSom, ↓wSlice, ↓wRev, ↓vP, ↓vSh, ↓vFit, ↓vaNil, ↓vaCons, ↓vLst, ↓vTup, ↓vTup0, ↓vList, ↓vRep, ↓vSlice, ↓cSl, ↓vCallN, ↓v1, ↓vCa, ↓vIx, ↓tP, ↓vAnd, ↓vOr, ↓vNot, ↓vIf, ↓vT, ↓v2, ↓vLc, ↓gI2, ↓gI2c, ↓gLen, ↓gII, ↓gI, ↓gInt1, ↓gRep, ↓gCat, ↓gKids, ↓gIn, ↓iLst, ↓TL.iTup, ↓TL.iRng1, ↓TL.iRng2, ↓iEn, ↓iZp, ↓hName, ↓hCons, ↓hNil, ↓hTup, ↓wSl, ↓wIsi, ↓wYes, rho0, iniE, entOf, allSh, List.replicate, List.length_cons, List.length_nil, Nat.reduceAdd, Nat.reduceSub, Nat.reduceLT, Nat.reduceLeDiff, List.cons_append, List.nil_append, List.getElem?_cons_zero, List.getElem?_cons_succ, Option.bind_some, Ent.tr, Ent.own, Ent.put, setE, killA, noAl_ow, noAl_io1, noAl_no, noAl_ro, noAl_al', killJ_cons, killJ_nil0, noRo_ow, noRo_io, noRo_no, noRo_al, mem1, notIn, noRA_ow, noRA_io, noRA_no, noRA_al, Plc, demE, List.foldl_cons, List.foldl_nil, List.map_cons, List.map_nil, List.set_cons_zero, List.set_cons_succ, endsOf, ↓outsOf, Option.map_some, plSet, TL.putAt, T.put, true_and, and_true, lst_set, lst_snoc, lm_set, lm_snoc, shOnly, shE_ow0, shE_ow1, shE_io, shE_no, Option.isSome_some, reduceIte, if_true, if_false, Bool.false_eq_true, Nat.reduceEqDiff]
      refine ⟨rfl, fit0, ?_, as ++ [if x - 1 > 0 then x - 1 else 0], _, _, _, _, _, _, _, _, by rw [List.map_append]; rfl, ?_, rfl⟩
      · subst ha; simp; omega
      · rw [ha]
        exact take_snoc (by rw [hless, List.getElem?_map, hx]; rfl)
    · obtain ⟨as, x9, x10, x11, x12, x13, x14, x15, x16, rfl, ha, rfl⟩ := hI
      rw [List.length_map, ← hll, take_len] at ha
      rw [ha]
      simp -dsimp only [gh0, gh1, ↓uSeq, ↓uNext, ↓uFor, ↓uSt, ↓uStV, ↓uAu, ↓uAp, ↓uApMv, ↓uAuN, ↓uAlias, ↓uDem, ↓uBrk, ↓uCnt, ↓uNev, ↓uRet, ↓uRetN, ↓uExp, ↓uExpP, ↓uSet, ↓uSetR, ↓uIf, ↓wVar, ↓wVarV, ↓wC, ↓w1, ↓w2, ↓wT, asB, ↓wChain, ↓wNil, ↓wCons, ↓wAnd, ↓wOr, ↓wNot, ↓wAndV, ↓wOrV, ↓wNotV, ↓wIf, ↓wCallP, ↓wCallV, ↓wCa, ↓wTup, ↓wLst, ↓oNon, ↓oSom, ↓wSlice, ↓wRev, ↓vP, ↓vSh, ↓vFit, ↓vaNil, ↓vaCons, ↓vLst, ↓vTup, ↓vTup0, ↓vList, ↓vRep, ↓vSlice, ↓cSl, ↓vCallN, ↓v1, ↓vCa, ↓vIx, ↓tP, ↓vAnd, ↓vOr, ↓vNot, ↓vIf, ↓vT, ↓v2, ↓vLc, ↓gI2, ↓gI2c, ↓gLen, ↓gII, ↓gI, ↓gInt1, ↓gRep, ↓gCat, ↓gKids, ↓gIn, ↓iLst, ↓TL.iTup, ↓TL.iRng1, ↓TL.iRng2, ↓iEn, ↓iZp, ↓hName, ↓hCons, ↓hNil, ↓hTup, ↓wSl, ↓wIsi, ↓wYes, rho0, iniE, entOf, allSh, List.replicate, List.length_cons, List.length_nil, Nat.reduceAdd, Nat.reduceSub, Nat.reduceLT, Nat.reduceLeDiff, List.cons_append, List.nil_append, List.getElem?_cons_zero, List.getElem?_cons_succ, Option.bind_some, Ent.tr, Ent.own, Ent.put, setE, killA, noAl_ow, noAl_io1, noAl_no, noAl_ro, noAl_al', killJ_cons, killJ_nil0, noRo_ow, noRo_io, noRo_no, noRo_al, mem1, notIn, noRA_ow, noRA_io, noRA_no, noRA_al, Plc, demE, List.foldl_cons, List.foldl_nil, List.map_cons, List.map_nil, List.set_cons_zero, List.set_cons_succ, endsOf, ↓outsOf, Option.map_some, plSet, TL.putAt, T.put, true_and, and_true, lst_set, lst_snoc, lm_set, lm_snoc, shOnly, shE_ow0, shE_ow1, shE_io, shE_no, Option.isSome_some, reduceIte, if_true, if_false, Bool.false_eq_true, Nat.reduceEqDiff]
      refine ⟨m, rfl, by omega, ?_⟩
      simp -dsimp only [gh0, gh1, ↓uSeq, ↓uNext, ↓uFor, ↓uSt, ↓uStV, ↓uAu, ↓uAp, ↓uApMv, ↓uAuN, ↓uAlias, ↓uDem, ↓uBrk, ↓uCnt, ↓uNev, ↓uRet, ↓uRetN, ↓uExp, ↓uExpP, ↓uSet, ↓uSetR, ↓uIf, ↓wVar, ↓wVarV, ↓wC, ↓w1, ↓w2, ↓wT, asB, ↓wChain, ↓wNil, ↓wCons, ↓wAnd, ↓wOr, ↓wNot, ↓wAndV, ↓wOrV, ↓wNotV, ↓wIf, ↓wCallP, ↓wCallV, ↓wCa, ↓wTup, ↓wLst, ↓oNon, ↓oSom, ↓wSlice, ↓wRev, ↓vP, ↓vSh, ↓vFit, ↓vaNil, ↓vaCons, ↓vLst, ↓vTup, ↓vTup0, ↓vList, ↓vRep, ↓vSlice, ↓cSl, ↓vCallN, ↓v1, ↓vCa, ↓vIx, ↓tP, ↓vAnd, ↓vOr, ↓vNot, ↓vIf, ↓vT, ↓v2, ↓vLc, ↓gI2, ↓gI2c, ↓gLen, ↓gII, ↓gI, ↓gInt1, ↓gRep, ↓gCat, ↓gKids, ↓gIn, ↓iLst, ↓TL.iTup, ↓TL.iRng1, ↓TL.iRng2, ↓iEn, ↓iZp, ↓hName, ↓hCons, ↓hNil, ↓hTup, ↓wSl, ↓wIsi, ↓wYes, rho0, iniE, entOf, allSh, List.replicate, List.length_cons, List.length_nil, Nat.reduceAdd, Nat.reduceSub, Nat.reduceLT, Nat.reduceLeDiff, List.cons_append, List.nil_append, List.getElem?_cons_zero, List.getElem?_cons_succ, Option.bind_some, Ent.tr, Ent.own, Ent.put, setE, killA, noAl_ow, noAl_io1, noAl_no, noAl_ro, noAl_al', killJ_cons, killJ_nil0, noRo_ow, noRo_io, noRo_no, noRo_al, mem1, notIn, noRA_ow, noRA_io, noRA_no, noRA_al, Plc, demE, List.foldl_cons, List.foldl_nil, List.map_cons, List.map_nil, List.set_cons_zero, List.set_cons_succ, endsOf, ↓outsOf, Option.map_some, plSet, TL.putAt, T.put, true_and, and_true, lst_set, lst_snoc, lm_set, lm_snoc, shOnly, shE_ow0, shE_ow1, shE_io, shE_no, Option.isSome_some, reduceIte, if_true, if_false, Bool.false_eq_true, Nat.reduceEqDiff]
      refine ⟨m, less, d3, rfl, K3, m, less, owedF m, d3, rfl, K3, gIx_last (getLast_map planF_last) ⟨_, rfl, by decide, okd_Li, sml_Li (by rw [(K3.q d3).len]; omega), rfl, h⟩⟩
end
end K94
set_option Elab.async false
set_option linter.all false
set_option maxRecDepth 100000
namespace K94
open PySem PySem.Spec PyProof.Rows L2 TL
theorem sqf_of {K : PySem.W.Frag} {H : Hp} {a : Addr} {vs : List V} (h : SqL K H a vs) (ho : Only H) : SqF K H a vs := by
  rcases h with (h | ⟨o, h⟩) | h
  · rcases ho a with z | ⟨o, xs, z⟩
    · rw [h] at z; cases z
    · rw [h] at z; cases z
  · exact .inl ⟨o, h⟩
  · exact .inr h
theorem law_sp {K : PySem.W.Frag} {H : Hp} {a : Addr} {ns : List Int} {E : XK} (hO : Only H) (hS : SqL K H a (ns.map V.int)) : spT K (allSh 1) W_law [.ref a] H (fun v _ => v = .bl true) E := by
  have hs : Shrs K H (fun _ => True) [.scr ns] [.ref a] := Shrs.cons (.scr (sqf_of hS hO)) .nil
  refine spT_pure (n := 1) (R := fun _ t => t = .bl true) hs rfl ⟨ns, rfl, rfl⟩ fun m t v H' S' F h1 _ own _ _ _ _ => ?_
  subst h1
  cases own
  rfl
theorem all_mk {l : PySem.W.OpenLaw} {w : World} {K : PySem.W.Frag} {h : Heap} {mg : Str → Option Value} {fa aR f0 f1 f2 f3 f4 f5 f6 f7 f8 f9 f10 f11 f12 f13 f14 f15 f16 f17 f18 f19 f20 f21 f22 : Addr} (X : K.In h) (G : h.Ns mainGlobals mg) (hfa : mg "law" = some (.ref fa))
    {od0 od1 od2 od3 od4 od5 od6 od7 od8 od9 od10 od11 od12 od13 od14 od15 od16 od17 od18 od19 od20 od21 od22 an0 an1 an2 an3 an4 an5 an6 an7 an8 an9 an10 an11 an12 an13 an14 an15 an16 an17 an18 an19 an20 an21 an22 : Option Addr} {sl0 sl1 sl2 sl3 sl4 sl5 sl6 sl7 sl8 sl9 sl10 sl11 sl12 sl13 sl14 sl15 sl16 sl17 sl18 sl19 sl20 sl21 sl22 : Array (Option Value)} {oc0 oc1 oc2 oc3 oc4 oc5 oc6 oc7 oc8 oc9 oc10 oc11 oc12 oc13 oc14 oc15 oc16 oc17 oc18 oc19 oc20 oc21 oc22 kV0 kV1 kV2 kV3 kV4 kV5 kV6 kV7 kV8 kV9 kV10 kV11 kV12 kV13 kV14 kV15 kV16 kV17 kV18 kV19 kV20 kV21 kV22 dc0 dc1 dc2 dc3 dc4 dc5 dc6 dc7 dc8 dc9 dc10 dc11 dc12 dc13 dc14 dc15 dc16 dc17 dc18 dc19 dc20 dc21 dc22 pm0 pm1 pm2 pm3 pm4 pm5 pm6 pm7 pm8 pm9 pm10 pm11 pm12 pm13 pm14 pm15 pm16 pm17 pm18 pm19 pm20 pm21 pm22 cd0 cd1 cd2 cd3 cd4 cd5 cd6 cd7 cd8 cd9 cd10 cd11 cd12 cd13 cd14 cd15 cd16 cd17 cd18 cd19 cd20 cd21 cd22 ct0 ct1 ct2 ct3 ct4 ct5 ct6 ct7 ct8 ct9 ct10 ct11 ct12 ct13 ct14 ct15 ct16 ct17 ct18 ct19 ct20 ct21 ct22 : Value} {t1 t2 t3 : Tok} {odR : Option Addr} {itsR : Array Value} {nR : Nat} {slR : Array (Option Value)}
    (a0 : PySem.W.nsIn K mainGlobals "in_range" = some (some (.ref f0))) (l0 : K.lookup f0 = some ⟨oc0, od0, .func (PySem.W.fnOf "in_range" "in_range" (defArgs s_in_range) (defBody s_in_range) (defScope s_in_range) .none kV0 dc0 pm0 an0 cd0 ct0), sl0⟩) (c0 : PySem.W.codeIn K cd0 "in_range" = true) (k0 : PySem.W.keepIn K (.ref f0) = true)
    (a1 : PySem.W.nsIn K mainGlobals "check_share" = some (some (.ref f1))) (l1 : K.lookup f1 = some ⟨oc1, od1, .func (PySem.W.fnOf "check_share" "check_share" (defArgs s_check_share) (defBody s_check_share) (defScope s_check_share) .none kV1 dc1 pm1 an1 cd1 ct1), sl1⟩) (c1 : PySem.W.codeIn K cd1 "check_share" = true) (k1 : PySem.W.keepIn K (.ref f1) = true)
    (a2 : PySem.W.nsIn K mainGlobals "raised" = some (some (.ref f2))) (l2 : K.lookup f2 = some ⟨oc2, od2, .func (PySem.W.fnOf "raised" "raised" (defArgs s_raised) (defBody s_raised) (defScope s_raised) .none kV2 dc2 pm2 an2 cd2 ct2), sl2⟩) (c2 : PySem.W.codeIn K cd2 "raised" = true) (k2 : PySem.W.keepIn K (.ref f2) = true)
    (a3 : PySem.W.nsIn K mainGlobals "level_share" = some (some (.ref f3))) (l3 : K.lookup f3 = some ⟨oc3, od3, .func (PySem.W.fnOf "level_share" "level_share" (defArgs s_level_share) (defBody s_level_share) (defScope s_level_share) .none kV3 dc3 pm3 an3 cd3 ct3), sl3⟩) (c3 : PySem.W.codeIn K cd3 "level_share" = true) (k3 : PySem.W.keepIn K (.ref f3) = true)
    (a4 : PySem.W.nsIn K mainGlobals "share" = some (some (.ref f4))) (l4 : K.lookup f4 = some ⟨oc4, od4, .func (PySem.W.fnOf "share" "share" (defArgs s_share) (defBody s_share) (defScope s_share) .none kV4 dc4 pm4 an4 cd4 ct4), sl4⟩) (c4 : PySem.W.codeIn K cd4 "share" = true) (k4 : PySem.W.keepIn K (.ref f4) = true)
    (a5 : PySem.W.nsIn K mainGlobals "next_plan" = some (some (.ref f5))) (l5 : K.lookup f5 = some ⟨oc5, od5, .func (PySem.W.fnOf "next_plan" "next_plan" (defArgs s_next_plan) (defBody s_next_plan) (defScope s_next_plan) .none kV5 dc5 pm5 an5 cd5 ct5), sl5⟩) (c5 : PySem.W.codeIn K cd5 "next_plan" = true) (k5 : PySem.W.keepIn K (.ref f5) = true)
    (a6 : PySem.W.nsIn K mainGlobals "stages" = some (some (.ref f6))) (l6 : K.lookup f6 = some ⟨oc6, od6, .func (PySem.W.fnOf "stages" "stages" (defArgs s_stages) (defBody s_stages) (defScope s_stages) .none kV6 dc6 pm6 an6 cd6 ct6), sl6⟩) (c6 : PySem.W.codeIn K cd6 "stages" = true) (k6 : PySem.W.keepIn K (.ref f6) = true)
    (a7 : PySem.W.nsIn K mainGlobals "clearing" = some (some (.ref f7))) (l7 : K.lookup f7 = some ⟨oc7, od7, .func (PySem.W.fnOf "clearing" "clearing" (defArgs s_clearing) (defBody s_clearing) (defScope s_clearing) .none kV7 dc7 pm7 an7 cd7 ct7), sl7⟩) (c7 : PySem.W.codeIn K cd7 "clearing" = true) (k7 : PySem.W.keepIn K (.ref f7) = true)
    (a8 : PySem.W.nsIn K mainGlobals "shows_clearing" = some (some (.ref f8))) (l8 : K.lookup f8 = some ⟨oc8, od8, .func (PySem.W.fnOf "shows_clearing" "shows_clearing" (defArgs s_shows_clearing) (defBody s_shows_clearing) (defScope s_shows_clearing) .none kV8 dc8 pm8 an8 cd8 ct8), sl8⟩) (c8 : PySem.W.codeIn K cd8 "shows_clearing" = true) (k8 : PySem.W.keepIn K (.ref f8) = true)
    (a9 : PySem.W.nsIn K mainGlobals "_law_pool" = some (some (.ref f9))) (l9 : K.lookup f9 = some ⟨oc9, od9, .func (PySem.W.fnOf "_law_pool" "_law_pool" (defArgs s__law_pool) (defBody s__law_pool) (defScope s__law_pool) .none kV9 dc9 pm9 an9 cd9 ct9), sl9⟩) (c9 : PySem.W.codeIn K cd9 "_law_pool" = true) (k9 : PySem.W.keepIn K (.ref f9) = true)
    (a10 : PySem.W.nsIn K mainGlobals "_law_mix" = some (some (.ref f10))) (l10 : K.lookup f10 = some ⟨oc10, od10, .func (PySem.W.fnOf "_law_mix" "_law_mix" (defArgs s__law_mix) (defBody s__law_mix) (defScope s__law_mix) .none kV10 dc10 pm10 an10 cd10 ct10), sl10⟩) (c10 : PySem.W.codeIn K cd10 "_law_mix" = true) (k10 : PySem.W.keepIn K (.ref f10) = true)
    (a11 : PySem.W.nsIn K mainGlobals "_law_draw" = some (some (.ref f11))) (l11 : K.lookup f11 = some ⟨oc11, od11, .func (PySem.W.fnOf "_law_draw" "_law_draw" (defArgs s__law_draw) (defBody s__law_draw) (defScope s__law_draw) .none kV11 dc11 pm11 an11 cd11 ct11), sl11⟩) (c11 : PySem.W.codeIn K cd11 "_law_draw" = true) (k11 : PySem.W.keepIn K (.ref f11) = true)
    (a12 : PySem.W.nsIn K mainGlobals "_law_pick" = some (some (.ref f12))) (l12 : K.lookup f12 = some ⟨oc12, od12, .func (PySem.W.fnOf "_law_pick" "_law_pick" (defArgs s__law_pick) (defBody s__law_pick) (defScope s__law_pick) .none kV12 dc12 pm12 an12 cd12 ct12), sl12⟩) (c12 : PySem.W.codeIn K cd12 "_law_pick" = true) (k12 : PySem.W.keepIn K (.ref f12) = true)
    (a13 : PySem.W.nsIn K mainGlobals "_law_whole" = some (some (.ref f13))) (l13 : K.lookup f13 = some ⟨oc13, od13, .func (PySem.W.fnOf "_law_whole" "_law_whole" (defArgs s__law_whole) (defBody s__law_whole) (defScope s__law_whole) .none kV13 dc13 pm13 an13 cd13 ct13), sl13⟩) (c13 : PySem.W.codeIn K cd13 "_law_whole" = true) (k13 : PySem.W.keepIn K (.ref f13) = true)
    (a14 : PySem.W.nsIn K mainGlobals "_law_same" = some (some (.ref f14))) (l14 : K.lookup f14 = some ⟨oc14, od14, .func (PySem.W.fnOf "_law_same" "_law_same" (defArgs s__law_same) (defBody s__law_same) (defScope s__law_same) .none kV14 dc14 pm14 an14 cd14 ct14), sl14⟩) (c14 : PySem.W.codeIn K cd14 "_law_same" = true) (k14 : PySem.W.keepIn K (.ref f14) = true)
    (a15 : PySem.W.nsIn K mainGlobals "_law_debts" = some (some (.ref f15))) (l15 : K.lookup f15 = some ⟨oc15, od15, .func (PySem.W.fnOf "_law_debts" "_law_debts" (defArgs s__law_debts) (defBody s__law_debts) (defScope s__law_debts) .none kV15 dc15 pm15 an15 cd15 ct15), sl15⟩) (c15 : PySem.W.codeIn K cd15 "_law_debts" = true) (k15 : PySem.W.keepIn K (.ref f15) = true)
    (a16 : PySem.W.nsIn K mainGlobals "_law_owns" = some (some (.ref f16))) (l16 : K.lookup f16 = some ⟨oc16, od16, .func (PySem.W.fnOf "_law_owns" "_law_owns" (defArgs s__law_owns) (defBody s__law_owns) (defScope s__law_owns) .none kV16 dc16 pm16 an16 cd16 ct16), sl16⟩) (c16 : PySem.W.codeIn K cd16 "_law_owns" = true) (k16 : PySem.W.keepIn K (.ref f16) = true)
    (a17 : PySem.W.nsIn K mainGlobals "_law_level" = some (some (.ref f17))) (l17 : K.lookup f17 = some ⟨oc17, od17, .func (PySem.W.fnOf "_law_level" "_law_level" (defArgs s__law_level) (defBody s__law_level) (defScope s__law_level) .none kV17 dc17 pm17 an17 cd17 ct17), sl17⟩) (c17 : PySem.W.codeIn K cd17 "_law_level" = true) (k17 : PySem.W.keepIn K (.ref f17) = true)
    (a18 : PySem.W.nsIn K mainGlobals "_law_after" = some (some (.ref f18))) (l18 : K.lookup f18 = some ⟨oc18, od18, .func (PySem.W.fnOf "_law_after" "_law_after" (defArgs s__law_after) (defBody s__law_after) (defScope s__law_after) .none kV18 dc18 pm18 an18 cd18 ct18), sl18⟩) (c18 : PySem.W.codeIn K cd18 "_law_after" = true) (k18 : PySem.W.keepIn K (.ref f18) = true)
    (a19 : PySem.W.nsIn K mainGlobals "_law_plans" = some (some (.ref f19))) (l19 : K.lookup f19 = some ⟨oc19, od19, .func (PySem.W.fnOf "_law_plans" "_law_plans" (defArgs s__law_plans) (defBody s__law_plans) (defScope s__law_plans) .none kV19 dc19 pm19 an19 cd19 ct19), sl19⟩) (c19 : PySem.W.codeIn K cd19 "_law_plans" = true) (k19 : PySem.W.keepIn K (.ref f19) = true)
    (a20 : PySem.W.nsIn K mainGlobals "_law_copied" = some (some (.ref f20))) (l20 : K.lookup f20 = some ⟨oc20, od20, .func (PySem.W.fnOf "_law_copied" "_law_copied" (defArgs s__law_copied) (defBody s__law_copied) (defScope s__law_copied) .none kV20 dc20 pm20 an20 cd20 ct20), sl20⟩) (c20 : PySem.W.codeIn K cd20 "_law_copied" = true) (k20 : PySem.W.keepIn K (.ref f20) = true)
    (a21 : PySem.W.nsIn K mainGlobals "_law_other_plans" = some (some (.ref f21))) (l21 : K.lookup f21 = some ⟨oc21, od21, .func (PySem.W.fnOf "_law_other_plans" "_law_other_plans" (defArgs s__law_other_plans) (defBody s__law_other_plans) (defScope s__law_other_plans) .none kV21 dc21 pm21 an21 cd21 ct21), sl21⟩) (c21 : PySem.W.codeIn K cd21 "_law_other_plans" = true) (k21 : PySem.W.keepIn K (.ref f21) = true)
    (a22 : PySem.W.nsIn K mainGlobals "law" = some (some (.ref f22))) (l22 : K.lookup f22 = some ⟨oc22, od22, .func (PySem.W.fnOf "law" "law" (defArgs s_law) (defBody s_law) (defScope s_law) .none kV22 dc22 pm22 an22 cd22 ct22), sl22⟩) (c22 : PySem.W.codeIn K cd22 "law" = true) (k22 : PySem.W.keepIn K (.ref f22) = true)
    (g1 : PySem.W.nsIn K mainGlobals "MOST_CLAIMS" = some (some (.int 40 t1))) (g2 : PySem.W.nsIn K mainGlobals "GREATEST_CLAIM" = some (some (.int 1000000000000 t2))) (g3 : PySem.W.nsIn K mainGlobals "GREATEST_COINS" = some (some (.int 1000000000000000 t3)))
    (g4 : PySem.W.nsIn K mainGlobals "RULES" = some (some (.ref aR))) (lR : K.lookup aR = some ⟨.type "tuple", odR, .seq itsR nR, slR⟩) (vR : itsR.size ≤ sizeLine ∧ Vals ([T.str "level", T.str "loss", T.str "quota"].map T.v1) itsR.toList)
    (z0 : PySem.W.nsIn K mainGlobals "len" = some none) (z1 : PySem.W.nsIn K mainGlobals "abs" = some none) (z2 : PySem.W.nsIn K mainGlobals "int" = some none) (z3 : PySem.W.nsIn K mainGlobals "sum" = some none) (z4 : PySem.W.nsIn K mainGlobals "max" = some none) (z5 : PySem.W.nsIn K mainGlobals "min" = some none) (z6 : PySem.W.nsIn K mainGlobals "range" = some none) (z7 : PySem.W.nsIn K mainGlobals "enumerate" = some none) (z8 : PySem.W.nsIn K mainGlobals "zip" = some none) (z9 : PySem.W.nsIn K mainGlobals "list" = some none) (z10 : PySem.W.nsIn K mainGlobals "isinstance" = some none) (z11 : PySem.W.nsIn K mainGlobals "bool" = some none) (z12 : PySem.W.nsIn K mainGlobals "str" = some none) (z13 : PySem.W.nsIn K mainGlobals "dict" = some none) (z14 : PySem.W.nsIn K mainGlobals "tuple" = some none) :
    ∃ fd : FuncData, (∀ (s : Shared) (v : Value), BindsTo s fd ⟨[v], []⟩ [("script", v)]) ∧ ∀ base : Heap, K.In base → base.Ns mainGlobals mg → FnOk l.prog w K mg base CX0 7 fa fd ["script"] (spT K (allSh 1) W_law) := by
  have e := hfa.symm.trans (PySem.W.mg_of X G a22)
  cases e
  have F0 := fun_mk (st := s_in_range) l0 c0 k0
  have b0 := F0.binds (ps := ["x", "least", "most"]) fun _ _ _ _ _ _ us hl => match us, hl with | [_, _, _], _ => rfl
  have F1 := fun_mk (st := s_check_share) l1 c1 k1
  have b1 := F1.binds (ps := ["rule", "claims", "got", "coins"]) fun _ _ _ _ _ _ us hl => match us, hl with | [_, _, _, _], _ => rfl
  have F2 := fun_mk (st := s_raised) l2 c2 k2
  have b2 := F2.binds (ps := ["claims", "got", "level"]) fun _ _ _ _ _ _ us hl => match us, hl with | [_, _, _], _ => rfl
  have F3 := fun_mk (st := s_level_share) l3 c3 k3
  have b3 := F3.binds (ps := ["claims", "got", "coins"]) fun _ _ _ _ _ _ us hl => match us, hl with | [_, _, _], _ => rfl
  have F4 := fun_mk (st := s_share) l4 c4 k4
  have b4 := F4.binds (ps := ["rule", "claims", "got", "coins"]) fun _ _ _ _ _ _ us hl => match us, hl with | [_, _, _, _], _ => rfl
  have F5 := fun_mk (st := s_next_plan) l5 c5 k5
  have b5 := F5.binds (ps := ["matrix", "own", "plan"]) fun _ _ _ _ _ _ us hl => match us, hl with | [_, _, _], _ => rfl
  have F6 := fun_mk (st := s_stages) l6 c6 k6
  have b6 := F6.binds (ps := ["matrix", "own"]) fun _ _ _ _ _ _ us hl => match us, hl with | [_, _], _ => rfl
  have F7 := fun_mk (st := s_clearing) l7 c7 k7
  have b7 := F7.binds (ps := ["matrix", "own"]) fun _ _ _ _ _ _ us hl => match us, hl with | [_, _], _ => rfl
  have F8 := fun_mk (st := s_shows_clearing) l8 c8 k8
  have b8 := F8.binds (ps := ["matrix", "own", "plans"]) fun _ _ _ _ _ _ us hl => match us, hl with | [_, _, _], _ => rfl
  have F9 := fun_mk (st := s__law_pool) l9 c9 k9
  have b9 := F9.binds (ps := ["script", "at", "salt"]) fun _ _ _ _ _ _ us hl => match us, hl with | [_, _, _], _ => rfl
  have F10 := fun_mk (st := s__law_mix) l10 c10 k10
  have b10 := F10.binds (ps := ["seed", "turn"]) fun _ _ _ _ _ _ us hl => match us, hl with | [_, _], _ => rfl
  have F11 := fun_mk (st := s__law_draw) l11 c11 k11
  have b11 := F11.binds (ps := ["pool", "many"]) fun _ _ _ _ _ _ us hl => match us, hl with | [_, _], _ => rfl
  have F12 := fun_mk (st := s__law_pick) l12 c12 k12
  have b12 := F12.binds (ps := ["pool", "row"]) fun _ _ _ _ _ _ us hl => match us, hl with | [_, _], _ => rfl
  have F13 := fun_mk (st := s__law_whole) l13 c13 k13
  have b13 := F13.binds (ps := ["thing"]) fun _ _ _ _ _ _ us hl => match us, hl with | [_], _ => rfl
  have F14 := fun_mk (st := s__law_same) l14 c14 k14
  have b14 := F14.binds (ps := ["told", "due"]) fun _ _ _ _ _ _ us hl => match us, hl with | [_, _], _ => rfl
  have F15 := fun_mk (st := s__law_debts) l15 c15 k15
  have b15 := F15.binds (ps := ["pool", "size"]) fun _ _ _ _ _ _ us hl => match us, hl with | [_, _], _ => rfl
  have F16 := fun_mk (st := s__law_owns) l16 c16 k16
  have b16 := F16.binds (ps := ["pool", "size"]) fun _ _ _ _ _ _ us hl => match us, hl with | [_, _], _ => rfl
  have F17 := fun_mk (st := s__law_level) l17 c17 k17
  have b17 := F17.binds (ps := ["claims", "coins"]) fun _ _ _ _ _ _ us hl => match us, hl with | [_, _], _ => rfl
  have F18 := fun_mk (st := s__law_after) l18 c18 k18
  have b18 := F18.binds (ps := ["matrix", "own", "plan"]) fun _ _ _ _ _ _ us hl => match us, hl with | [_, _, _], _ => rfl
  have F19 := fun_mk (st := s__law_plans) l19 c19 k19
  have b19 := F19.binds (ps := ["matrix", "own", "first"]) fun _ _ _ _ _ _ us hl => match us, hl with | [_, _, _], _ => rfl
  have F20 := fun_mk (st := s__law_copied) l20 c20 k20
  have b20 := F20.binds (ps := ["rows"]) fun _ _ _ _ _ _ us hl => match us, hl with | [_], _ => rfl
  have F21 := fun_mk (st := s__law_other_plans) l21 c21 k21
  have b21 := F21.binds (ps := ["pool", "plans", "up"]) fun _ _ _ _ _ _ us hl => match us, hl with | [_, _, _], _ => rfl
  have F22 := fun_mk (st := s_law) l22 c22 k22
  have b22 := F22.binds (ps := ["script"]) fun _ _ _ _ _ _ us hl => match us, hl with | [_], _ => rfl
  let GG : Gs K mg := {
    g_in_range := ⟨_, _, F0, b0, PySem.W.mg_of X G a0⟩
    g_check_share := ⟨_, _, F1, b1, PySem.W.mg_of X G a1⟩
    g_raised := ⟨_, _, F2, b2, PySem.W.mg_of X G a2⟩
    g_level_share := ⟨_, _, F3, b3, PySem.W.mg_of X G a3⟩
    g_share := ⟨_, _, F4, b4, PySem.W.mg_of X G a4⟩
    g_next_plan := ⟨_, _, F5, b5, PySem.W.mg_of X G a5⟩
    g_stages := ⟨_, _, F6, b6, PySem.W.mg_of X G a6⟩
    g_clearing := ⟨_, _, F7, b7, PySem.W.mg_of X G a7⟩
    g_shows_clearing := ⟨_, _, F8, b8, PySem.W.mg_of X G a8⟩
    g__law_pool := ⟨_, _, F9, b9, PySem.W.mg_of X G a9⟩
    g__law_mix := ⟨_, _, F10, b10, PySem.W.mg_of X G a10⟩
    g__law_draw := ⟨_, _, F11, b11, PySem.W.mg_of X G a11⟩
    g__law_pick := ⟨_, _, F12, b12, PySem.W.mg_of X G a12⟩
    g__law_whole := ⟨_, _, F13, b13, PySem.W.mg_of X G a13⟩
    g__law_same := ⟨_, _, F14, b14, PySem.W.mg_of X G a14⟩
    g__law_debts := ⟨_, _, F15, b15, PySem.W.mg_of X G a15⟩
    g__law_owns := ⟨_, _, F16, b16, PySem.W.mg_of X G a16⟩
    g__law_level := ⟨_, _, F17, b17, PySem.W.mg_of X G a17⟩
    g__law_after := ⟨_, _, F18, b18, PySem.W.mg_of X G a18⟩
    g__law_plans := ⟨_, _, F19, b19, PySem.W.mg_of X G a19⟩
    g__law_copied := ⟨_, _, F20, b20, PySem.W.mg_of X G a20⟩
    g__law_other_plans := ⟨_, _, F21, b21, PySem.W.mg_of X G a21⟩
    g_law := ⟨_, _, F22, b22, PySem.W.mg_of X G a22⟩
    z_len := PySem.W.mg_none_of X G z0
    z_abs := PySem.W.mg_none_of X G z1
    z_int := PySem.W.mg_none_of X G z2
    z_sum := PySem.W.mg_none_of X G z3
    z_max := PySem.W.mg_none_of X G z4
    z_min := PySem.W.mg_none_of X G z5
    z_range := PySem.W.mg_none_of X G z6
    z_enumerate := PySem.W.mg_none_of X G z7
    z_zip := PySem.W.mg_none_of X G z8
    z_list := PySem.W.mg_none_of X G z9
    z_isinstance := PySem.W.mg_none_of X G z10
    z_bool := PySem.W.mg_none_of X G z11
    z_str := PySem.W.mg_none_of X G z12
    z_dict := PySem.W.mg_none_of X G z13
    z_tuple := PySem.W.mg_none_of X G z14
    c_most := ⟨_, PySem.W.mg_of X G g1⟩
    c_claim := ⟨_, PySem.W.mg_of X G g2⟩
    c_coins := ⟨_, PySem.W.mg_of X G g3⟩
    a_rules := aR
    c_rules := ⟨trivial, PySem.W.mg_of X G g4, fun H S => kTup lR rfl rfl vR.1 vR.2 rfl H S⟩ }
  exact ⟨_, fun s v => .of_eq (fd := PySem.W.fnOf "law" "law" (defArgs s_law) (defBody s_law) (defScope s_law) .none kV22 dc22 pm22 an22 cd22 ct22) rfl, fun base _ _ => ok_law (k := 0) GG⟩
end K94
open PySem PySem.W PyProof.Rows
set_option maxHeartbeats 0 in
theorem PySem.Challenge.cw_pensionhall_k94_whole_ring_clearing_holds : PySem.Challenge.rw_pensionhall_k94_whole_ring_clearing.Holds := by
  w_on; o_law; k_head; (case hw => w_witness2)
  k_fill
  refine L2.walk_of (l := PySem.Challenge.rw_pensionhall_k94_whole_ring_clearing) (n := 63) (k := 7) (x := "script") (CX := fun _ => L2.CX0) (sp := fun w => TL.spT _ (TL.allSh 1) K94.W_law) rfl (by decide) rfl ⟨rfl, by decide, by decide⟩ (fun w h Y => PySem.W.kIn_of Y) ?F (fun _ _ a ns hl hO hS => K94.law_sp hO hS) (fun _ _ _ _ _ h => h)
  case F =>
    intro w mg fa h KX G hmg
    refine' K94.all_mk KX G hmg ?a0 ?l0 ?c0 ?k0 ?a1 ?l1 ?c1 ?k1 ?a2 ?l2 ?c2 ?k2 ?a3 ?l3 ?c3 ?k3 ?a4 ?l4 ?c4 ?k4 ?a5 ?l5 ?c5 ?k5 ?a6 ?l6 ?c6 ?k6 ?a7 ?l7 ?c7 ?k7 ?a8 ?l8 ?c8 ?k8 ?a9 ?l9 ?c9 ?k9 ?a10 ?l10 ?c10 ?k10 ?a11 ?l11 ?c11 ?k11 ?a12 ?l12 ?c12 ?k12 ?a13 ?l13 ?c13 ?k13 ?a14 ?l14 ?c14 ?k14 ?a15 ?l15 ?c15 ?k15 ?a16 ?l16 ?c16 ?k16 ?a17 ?l17 ?c17 ?k17 ?a18 ?l18 ?c18 ?k18 ?a19 ?l19 ?c19 ?k19 ?a20 ?l20 ?c20 ?k20 ?a21 ?l21 ?c21 ?k21 ?a22 ?l22 ?c22 ?k22 ?g1 ?g2 ?g3 ?g4 ?lR ?vR ?z0 ?z1 ?z2 ?z3 ?z4 ?z5 ?z6 ?z7 ?z8 ?z9 ?z10 ?z11 ?z12 ?z13 ?z14
    (case a0 => k_is)
    (case l0 => k_is)
    (case c0 => k_is)
    (case k0 => k_is)
    (case a1 => k_is)
    (case l1 => k_is)
    (case c1 => k_is)
    (case k1 => k_is)
    (case a2 => k_is)
    (case l2 => k_is)
    (case c2 => k_is)
    (case k2 => k_is)
    (case a3 => k_is)
    (case l3 => k_is)
    (case c3 => k_is)
    (case k3 => k_is)
    (case a4 => k_is)
    (case l4 => k_is)
    (case c4 => k_is)
    (case k4 => k_is)
    (case a5 => k_is)
    (case l5 => k_is)
    (case c5 => k_is)
    (case k5 => k_is)
    (case a6 => k_is)
    (case l6 => k_is)
    (case c6 => k_is)
    (case k6 => k_is)
    (case a7 => k_is)
    (case l7 => k_is)
    (case c7 => k_is)
    (case k7 => k_is)
    (case a8 => k_is)
    (case l8 => k_is)
    (case c8 => k_is)
    (case k8 => k_is)
    (case a9 => k_is)
    (case l9 => k_is)
    (case c9 => k_is)
    (case k9 => k_is)
    (case a10 => k_is)
    (case l10 => k_is)
    (case c10 => k_is)
    (case k10 => k_is)
    (case a11 => k_is)
    (case l11 => k_is)
    (case c11 => k_is)
    (case k11 => k_is)
    (case a12 => k_is)
    (case l12 => k_is)
    (case c12 => k_is)
    (case k12 => k_is)
    (case a13 => k_is)
    (case l13 => k_is)
    (case c13 => k_is)
    (case k13 => k_is)
    (case a14 => k_is)
    (case l14 => k_is)
    (case c14 => k_is)
    (case k14 => k_is)
    (case a15 => k_is)
    (case l15 => k_is)
    (case c15 => k_is)
    (case k15 => k_is)
    (case a16 => k_is)
    (case l16 => k_is)
    (case c16 => k_is)
    (case k16 => k_is)
    (case a17 => k_is)
    (case l17 => k_is)
    (case c17 => k_is)
    (case k17 => k_is)
    (case a18 => k_is)
    (case l18 => k_is)
    (case c18 => k_is)
    (case k18 => k_is)
    (case a19 => k_is)
    (case l19 => k_is)
    (case c19 => k_is)
    (case k19 => k_is)
    (case a20 => k_is)
    (case l20 => k_is)
    (case c20 => k_is)
    (case k20 => k_is)
    (case a21 => k_is)
    (case l21 => k_is)
    (case c21 => k_is)
    (case k21 => k_is)
    (case a22 => k_is)
    (case l22 => k_is)
    (case c22 => k_is)
    (case k22 => k_is)
    (case g1 => k_is)
    (case g2 => k_is)
    (case g3 => k_is)
    (case g4 => k_is)
    (case lR => k_is)
    (case vR => exact ⟨by decide, .cons ⟨_, rfl⟩ (.cons ⟨_, rfl⟩ (.cons ⟨_, rfl⟩ .nil))⟩)
    (case z0 => k_is)
    (case z1 => k_is)
    (case z2 => k_is)
    (case z3 => k_is)
    (case z4 => k_is)
    (case z5 => k_is)
    (case z6 => k_is)
    (case z7 => k_is)
    (case z8 => k_is)
    (case z9 => k_is)
    (case z10 => k_is)
    (case z11 => k_is)
    (case z12 => k_is)
    (case z13 => k_is)
    (case z14 => k_is)
