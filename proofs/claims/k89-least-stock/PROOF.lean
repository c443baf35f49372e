import PyProof.Rows.All
import Wide.All
import OpenK.AllK
import Wide.FinOn
import HandS.ForMost
import HandS.Wide
import HandS.WideMore
import HandS.Walk
import HandS.IsInst
import HandS.Conv
import HandS.TupAny
import HandS.Exc
import HandS.ExcOwn
import HandS.WordsExc
import HandS.Style
import HandS.ExcCtx
import HandS.ExcInit
import HandS.ExcField
import HandS.HotCalls
import HandS.ExcIs
import KE.KExcIs
import HandS.SortRule
import HandS.Iter
import PySem.Challenge.RW_pensionhall_k89_least_stock
set_option Elab.async false
set_option linter.all false
set_option maxRecDepth 100000
/-! TL: values as plain trees over HandS; lists are owned down to a depth. -/
namespace TL
open PySem PySem.Spec PyProof.Rows L2

/-! ### trees -/
/-- the kind of a node that may change: a list, a dict (its keys), an instance (its class, its attributes' names) -/
inductive NK where
  | lst | dK (ks : List Key) | dT (ks : List (List Key)) | ins (C : Addr) (ns : List Str)
/-- what stands in the heap of such a node -/
def NK.is : NK → HO → List V → Prop
  | .lst, o, vs => o = .lst vs
  | .dK ks, o, vs => ks.length = vs.length ∧ o = .dK (ks.zip vs)
  | .dT ks, o, vs => ks.length = vs.length ∧ o = .dT (ks.zip vs)
  | .ins C ns, o, vs => ns.length = vs.length ∧ ∃ dx, o = .ins C dx (ns.zip vs)
theorem NK.is.inj {k : NK} {o : HO} {vs ws : List V} (h : k.is o vs) (g : k.is o ws) : vs = ws := by
  have zz : ∀ {α : Type} (ks : List α) (vs ws : List V), ks.length = vs.length → ks.length = ws.length → ks.zip vs = ks.zip ws → vs = ws := by
    intro α ks vs ws h1 h2 e
    have e2 := congrArg (List.map Prod.snd) e
    rwa [List.map_snd_zip (by omega), List.map_snd_zip (by omega)] at e2
  cases k with
  | lst =>
    have h : o = .lst vs := h
    have g : o = .lst ws := g
    exact HO.lst.inj (h.symm.trans g)
  | dK ks => exact zz ks _ _ h.1 g.1 (HO.dK.inj (h.2.symm.trans g.2))
  | dT ks => exact zz ks _ _ h.1 g.1 (HO.dT.inj (h.2.symm.trans g.2))
  | ins C ns =>
    obtain ⟨l1, d1, e1⟩ := h
    obtain ⟨l2, d2, e2⟩ := g
    have e := e1.symm.trans e2
    injection e with _ _ e3
    exact zz ns _ _ l1 l2 e3
theorem NK.is.ntup {k : NK} {o : HO} {vs xs : List V} (h : k.is o vs) : o ≠ .tup xs := by
  intro e
  subst e
  cases k with
  | lst => exact absurd (show HO.tup xs = .lst vs from h) (fun z => nomatch z)
  | dK ks => exact absurd h.2 (fun z => nomatch z)
  | dT ks => exact absurd h.2 (fun z => nomatch z)
  | ins C ns =>
    obtain ⟨_, d, e⟩ := h
    cases e
theorem NK.is.nfrz {k : NK} {o u : HO} {ob : Obj} {vs : List V} (h : k.is o vs) : o ≠ .frz ob u := by
  intro e
  subst e
  cases k with
  | lst => exact absurd (show HO.frz ob u = .lst vs from h) (fun z => nomatch z)
  | dK ks => exact absurd h.2 (fun z => nomatch z)
  | dT ks => exact absurd h.2 (fun z => nomatch z)
  | ins C ns =>
    obtain ⟨_, d, e⟩ := h
    cases e
/-- such a node may be locked while a loop walks it -/
def NK.lk : NK → Bool
  | .dK _ => true
  | .dT _ => true
  | _ => false
inductive T where
  | non | bl (b : Bool) | int (i : Int) | str (s : Str)
  | tup (ts : List T) | nd (k : NK) (ts : List T)
  -- a reference to something that is not looked into
  | opq (a : Addr)
  -- a caught exception at a, of the class at C; its own dict at d
  | exc (a C d : Addr) (fs : List (Str × V))
  -- the script: a locked list of ints
  | scr (ns : List Int)

abbrev T.lst (ts : List T) : T := .nd .lst ts
theorem T.cs {M : T → Prop} (non : M .non) (bl : ∀ b, M (.bl b)) (int : ∀ i, M (.int i)) (str : ∀ s, M (.str s)) (tup : ∀ ts, M (.tup ts)) (lst : ∀ ts, M (.nd .lst ts)) (dK : ∀ ks ts, M (.nd (.dK ks) ts)) (dT : ∀ ks ts, M (.nd (.dT ks) ts))
    (ins : ∀ C ns ts, M (.nd (.ins C ns) ts)) (opq : ∀ a, M (.opq a)) (scr : ∀ ns, M (.scr ns)) (exc : ∀ a C d fs, M (.exc a C d fs)) (t : T) : M t := by
  cases t with
  | non => exact non
  | bl b => exact bl b
  | int i => exact int i
  | str s => exact str s
  | tup ts => exact tup ts
  | nd k ts =>
    cases k with
    | lst => exact lst ts
    | dK ks => exact dK ks ts
    | dT ks => exact dT ks ts
    | ins C ns => exact ins C ns ts
  | opq a => exact opq a
  | exc a C d fs => exact exc a C d fs
  | scr ns => exact scr ns
mutual
def T.flatAt : T → Nat → Bool
  | .tup ts, n => T.flatAts ts (n - 1)
  | .nd _ _, 0 => false
  | .nd _ ts, n + 1 => T.flatAts ts n
  | .non, _ => true
  | .bl _, _ => true
  | .int _, _ => true
  | .str _, _ => true
  | .scr _, _ => true
  | .opq _, _ => true
  | .exc _ _ _ _, _ => false
def T.flatAts : List T → Nat → Bool
  | [], _ => true
  | t :: ts, n => T.flatAt t n && T.flatAts ts n
end
abbrev T.flat (t : T) : Bool := t.flatAt 0
abbrev T.flats (ts : List T) : Bool := T.flatAts ts 0

theorem flatAts_iff : ∀ {ts : List T} {n : Nat}, T.flatAts ts n = true ↔ ∀ t ∈ ts, t.flatAt n = true
  | [], n => by simp [T.flatAts]
  | t :: ts, n => by
    rw [T.flatAts, Bool.and_eq_true, flatAts_iff]
    simp

/-! ### a value stands for a tree: lists are owned down to depth n (their addresses told in F), below that they lie in S -/
/-- a list that is locked, or of the written part -/
def SqF (K : PySem.W.Frag) (H : Hp) (a : Addr) (vs : List V) : Prop :=
  (∃ o, H a = some (.frz o (.lst vs))) ∨ ∃ (o : Obj) (its : Array Value) (n : Nat), K.lookup a = some o ∧ o.cls = .type "list" ∧ o.dict = none ∧ o.data = .seq its n ∧ its.size ≤ sizeLine ∧ Vals vs its.toList
/-- a list that is only read: its address is in S -/
def SqS (H : Hp) (S : Addr → Prop) (a : Addr) (vs : List V) : Prop := H a = some (.lst vs) ∧ S a
/-- .. a node of any kind -/
def SqN (H : Hp) (S : Addr → Prop) (k : NK) (a : Addr) (vs : List V) : Prop := ∃ o, k.is o vs ∧ ((H a = some o ∧ S a) ∨ (k.lk = true ∧ ∃ ob, H a = some (.frz ob o)))
mutual
inductive Own (K : PySem.W.Frag) (H : Hp) (S : Addr → Prop) : Nat → T → V → List Addr → Prop
  | non {n : Nat} : Own K H S n .non .non []
  | bl {n : Nat} (b : Bool) : Own K H S n (.bl b) (.bl b) []
  | int {n : Nat} (i : Int) : Own K H S n (.int i) (.int i) []
  | str {n : Nat} (x : Str) : Own K H S n (.str x) (.str x) []
  | scr {n : Nat} {a : Addr} {ns : List Int} : SqF K H a (ns.map V.int) → Own K H S n (.scr ns) (.ref a) []
  | tupf {n : Nat} {a : Addr} {vs : List V} {ts : List T} : SqT K H a vs → T.flats ts = true → Owns K H S 0 ts vs [] → Own K H S n (.tup ts) (.ref a) []
  | tup0 {a : Addr} {vs : List V} {ts : List T} : SqT K H a vs → Owns K H S 0 ts vs [] → Own K H S 0 (.tup ts) (.ref a) []
  | tup {n : Nat} {a : Addr} {vs : List V} {ts : List T} {F : List Addr} : H a = some (.tup vs) → Owns K H S n ts vs F → Own K H S (n + 1) (.tup ts) (.ref a) F
  | opq {n : Nat} (a : Addr) : Own K H S n (.opq a) (.ref a) []
  | exc {n : Nat} {a C d : Addr} {fs : List (Str × V)} : H d = some (.xd fs) → S d → Own K H S n (.exc a C d fs) (.ref a) []
  | snd {k : NK} {a : Addr} {vs : List V} {ts : List T} : SqN H S k a vs → Owns K H S 0 ts vs [] → Own K H S 0 (.nd k ts) (.ref a) []
  | nd {n : Nat} {k : NK} {a : Addr} {o : HO} {vs : List V} {ts : List T} {F : List Addr} : H a = some o → k.is o vs → Owns K H S n ts vs F → Own K H S (n + 1) (.nd k ts) (.ref a) (a :: F)
inductive Owns (K : PySem.W.Frag) (H : Hp) (S : Addr → Prop) : Nat → List T → List V → List Addr → Prop
  | nil {n : Nat} : Owns K H S n [] [] []
  | cons {n : Nat} {t : T} {ts : List T} {v : V} {vs : List V} {F G : List Addr} : Own K H S n t v F → Owns K H S n ts vs G → Owns K H S n (t :: ts) (v :: vs) (F ++ G)
end
abbrev Shr (K : PySem.W.Frag) (H : Hp) (S : Addr → Prop) (t : T) (v : V) : Prop := Own K H S 0 t v []
abbrev Shrs (K : PySem.W.Frag) (H : Hp) (S : Addr → Prop) (ts : List T) (vs : List V) : Prop := Owns K H S 0 ts vs []

section
variable {K : PySem.W.Frag} {H H' : Hp} {S S' : Addr → Prop}
theorem Owns.length {n : Nat} : ∀ {ts : List T} {vs : List V} {F : List Addr}, Owns K H S n ts vs F → ts.length = vs.length
  | [], _, _, .nil => rfl
  | _ :: _, _, _, .cons _ r => by rw [List.length_cons, List.length_cons, Owns.length r]
mutual
theorem Own.zero : ∀ {t : T} {v : V} {F : List Addr}, Own K H S 0 t v F → F = []
  | .non, _, _, h => by cases h; rfl
  | .bl _, _, _, h => by cases h; rfl
  | .int _, _, _, h => by cases h; rfl
  | .str _, _, _, h => by cases h; rfl
  | .scr _, _, _, h => by cases h; rfl
  | .tup ts, _, _, h => by
    cases h with
    | tupf _ _ r => rfl
    | tup0 _ r => rfl
  | .nd _ ts, _, _, h => by cases h; rfl
  | .opq _, _, _, h => by cases h; rfl
  | .exc _ _ _ _, _, _, h => by cases h; rfl
theorem Owns.zero : ∀ {ts : List T} {vs : List V} {F : List Addr}, Owns K H S 0 ts vs F → F = []
  | [], _, _, h => by cases h; rfl
  | t :: ts, _, _, h => by
    cases h with
    | cons a r => rw [Own.zero a, Owns.zero r]; rfl
end
/-- what a change of the heap must keep -/
structure Kp (H H' : Hp) (S : Addr → Prop) (F : List Addr) : Prop where
  tup : ∀ a xs, H a = some (.tup xs) → H' a = some (.tup xs)
  frz : ∀ a o u, H a = some (.frz o u) → H' a = some (.frz o u)
  lst : ∀ a o, (S a ∨ a ∈ F) → H a = some o → H' a = some o
theorem Kp.sqT {F : List Addr} (k : Kp H H' S F) {a : Addr} {vs : List V} (h : SqT K H a vs) : SqT K H' a vs := by
  rcases h with (h | ⟨o, h⟩) | h
  · exact .inl (.inl (k.tup _ _ h))
  · exact .inl (.inr ⟨o, k.frz _ _ _ h⟩)
  · exact .inr h
theorem Kp.sqS {F : List Addr} (k : Kp H H' S F) (hS : ∀ a, S a → S' a) {a : Addr} {vs : List V} (h : SqS H S a vs) : SqS H' S' a vs := ⟨k.lst _ _ (.inl h.2) h.1, hS a h.2⟩
theorem Kp.sqN {F : List Addr} (k : Kp H H' S F) (hS : ∀ a, S a → S' a) {kd : NK} {a : Addr} {vs : List V} (h : SqN H S kd a vs) : SqN H' S' kd a vs := by
  obtain ⟨o, i, h | ⟨l, ob, h⟩⟩ := h
  · exact ⟨o, i, .inl ⟨k.lst _ _ (.inl h.2) h.1, hS a h.2⟩⟩
  · exact ⟨o, i, .inr ⟨l, ob, k.frz _ _ _ h⟩⟩
theorem Kp.sqL {F : List Addr} (k : Kp H H' S F) {a : Addr} {vs : List V} (h : SqF K H a vs) : SqF K H' a vs := by
  rcases h with ⟨o, h⟩ | h
  · exact .inl ⟨o, k.frz _ _ _ h⟩
  · exact .inr h
theorem Kp.sub {F G : List Addr} (k : Kp H H' S F) (h : ∀ a ∈ G, a ∈ F) : Kp H H' S G := ⟨k.tup, k.frz, fun a xs q e => k.lst a xs (q.imp_right (h a)) e⟩
theorem Kp.same {F : List Addr} (s : Same H H') : Kp H H' S F := ⟨fun a xs e => s a _ e, fun a o u e => s a _ e, fun a xs _ e => s a _ e⟩
mutual
theorem Own.keep (hS : ∀ a, S a → S' a) : ∀ {t : T} {n : Nat} {v : V} {F : List Addr}, Own K H S n t v F → Kp H H' S F → Own K H' S' n t v F
  | .non, _, _, _, h, _ => by cases h; exact .non
  | .bl _, _, _, _, h, _ => by cases h; exact .bl _
  | .int _, _, _, _, h, _ => by cases h; exact .int _
  | .str _, _, _, _, h, _ => by cases h; exact .str _
  | .scr _, _, _, _, h, k => by
    cases h with
    | scr q => exact .scr (k.sqL q)
  | .tup ts, _, _, _, h, k => by
    cases h with
    | tupf q f r => exact .tupf (k.sqT q) f (Owns.keep hS r k)
    | tup0 q r => exact .tup0 (k.sqT q) (Owns.keep hS r k)
    | tup q r => exact .tup (k.tup _ _ q) (Owns.keep hS r k)
  | .opq _, _, _, _, h, _ => by cases h; exact .opq _
  | .exc _ _ _ _, _, _, _, h, k => by
    cases h with
    | exc e s => exact .exc (k.lst _ _ (.inl s) e) (hS _ s)
  | .nd _ ts, _, _, _, h, k => by
    cases h with
    | snd q r => exact .snd (k.sqN hS q) (Owns.keep hS r k)
    | nd q i r => exact .nd (k.lst _ _ (.inr List.mem_cons_self) q) i (Owns.keep hS r (k.sub fun a m => List.mem_cons_of_mem _ m))
theorem Owns.keep (hS : ∀ a, S a → S' a) : ∀ {ts : List T} {n : Nat} {vs : List V} {F : List Addr}, Owns K H S n ts vs F → Kp H H' S F → Owns K H' S' n ts vs F
  | [], _, _, _, h, _ => by cases h; exact .nil
  | t :: ts, _, _, _, h, k => by
    cases h with
    | cons a r => exact .cons (Own.keep hS a (k.sub fun b m => List.mem_append_left _ m)) (Owns.keep hS r (k.sub fun b m => List.mem_append_right _ m))
end
-- all owned nodes stand 
mutual
theorem Own.there : ∀ {t : T} {n : Nat} {v : V} {F : List Addr}, Own K H S n t v F → ∀ a ∈ F, ∃ o : HO, H a = some o
  | .non, _, _, _, h, a, m => by cases h; cases m
  | .bl _, _, _, _, h, a, m => by cases h; cases m
  | .int _, _, _, _, h, a, m => by cases h; cases m
  | .str _, _, _, _, h, a, m => by cases h; cases m
  | .scr _, _, _, _, h, a, m => by cases h; cases m
  | .tup ts, _, _, _, h, a, m => by
    cases h with
    | tupf _ _ r => cases m
    | tup0 _ r => cases m
    | tup _ r => exact Owns.there r a m
  | .opq _, _, _, _, h, a, m => by cases h; cases m
  | .exc _ _ _ _, _, _, _, h, a, m => by cases h; cases m
  | .nd _ ts, _, _, _, h, a, m => by
    cases h with
    | snd _ _ => cases m
    | nd q i r =>
      rcases List.mem_cons.mp m with rfl | m
      · exact ⟨_, q⟩
      · exact Owns.there r a m
theorem Owns.there : ∀ {ts : List T} {n : Nat} {vs : List V} {F : List Addr}, Owns K H S n ts vs F → ∀ a ∈ F, ∃ o : HO, H a = some o
  | [], _, _, _, h, a, m => by cases h; cases m
  | t :: ts, _, _, _, h, a, m => by
    cases h with
    | cons x r =>
      rcases List.mem_append.mp m with m | m
      · exact Own.there x a m
      · exact Owns.there r a m
end
mutual
theorem Own.nt : ∀ {t : T} {n : Nat} {v : V} {F : List Addr}, Own K H S n t v F → ∀ a ∈ F, ∀ o, H a = some o → (∀ xs, o ≠ .tup xs) ∧ ∀ ob u, o ≠ .frz ob u
  | .non, _, _, _, h, a, m => by cases h; cases m
  | .bl _, _, _, _, h, a, m => by cases h; cases m
  | .int _, _, _, _, h, a, m => by cases h; cases m
  | .str _, _, _, _, h, a, m => by cases h; cases m
  | .scr _, _, _, _, h, a, m => by cases h; cases m
  | .opq _, _, _, _, h, a, m => by cases h; cases m
  | .exc _ _ _ _, _, _, _, h, a, m => by cases h; cases m
  | .tup ts, _, _, _, h, a, m => by
    cases h with
    | tupf _ _ r => cases m
    | tup0 _ r => cases m
    | tup _ r => exact Owns.nt r a m
  | .nd _ ts, _, _, _, h, a, m => by
    cases h with
    | snd _ _ => cases m
    | nd q i r =>
      rcases List.mem_cons.mp m with rfl | m
      · intro o e
        rw [q] at e
        have e := Option.some.inj e
        subst e
        exact ⟨fun xs => i.ntup, fun ob u => i.nfrz⟩
      · exact Owns.nt r a m
theorem Owns.nt : ∀ {ts : List T} {n : Nat} {vs : List V} {F : List Addr}, Owns K H S n ts vs F → ∀ a ∈ F, ∀ o, H a = some o → (∀ xs, o ≠ .tup xs) ∧ ∀ ob u, o ≠ .frz ob u
  | [], _, _, _, h, a, m => by cases h; cases m
  | t :: ts, _, _, _, h, a, m => by
    cases h with
    | cons x r =>
      rcases List.mem_append.mp m with m | m
      · exact Own.nt x a m
      · exact Owns.nt r a m
end
-- a tree without lists below depth n: what is shared in it does not matter 
mutual
theorem Own.anyS {t : T} {n : Nat} {v : V} {F : List Addr} (h : Own K H S n t v F) (hf : t.flatAt n = true) (S' : Addr → Prop) : Own K H S' n t v F := by
  cases t with
  | non => cases h; exact .non
  | bl _ => cases h; exact .bl _
  | int _ => cases h; exact .int _
  | str _ => cases h; exact .str _
  | scr _ =>
    cases h with
    | scr q => exact .scr q
  | tup ts =>
    cases h with
    | tupf q f r => exact .tupf q f (Owns.anyS r f S')
    | tup0 q r => exact .tup0 q (Owns.anyS r (by rw [T.flatAt] at hf; exact hf) S')
    | tup q r => exact .tup q (Owns.anyS r (by rw [T.flatAt] at hf; exact hf) S')
  | opq _ => cases h; exact .opq _
  | exc _ _ _ _ => rw [T.flatAt] at hf; cases hf
  | nd _ ts =>
    cases h with
    | snd q r => rw [T.flatAt] at hf; cases hf
    | nd q i r => exact .nd q i (Owns.anyS r (by rw [T.flatAt] at hf; exact hf) S')
theorem Owns.anyS {ts : List T} {n : Nat} {vs : List V} {F : List Addr} (h : Owns K H S n ts vs F) (hf : T.flatAts ts n = true) (S' : Addr → Prop) : Owns K H S' n ts vs F := by
  cases ts with
  | nil => cases h; exact .nil
  | cons t ts =>
    rw [T.flatAts, Bool.and_eq_true] at hf
    cases h with
    | cons a r => exact .cons (Own.anyS a hf.1 S') (Owns.anyS r hf.2 S')
end
-- a flat tree has no owned nodes; its depth does not matter 
mutual
theorem Own.flat0 {t : T} {n : Nat} {v : V} {F : List Addr} (h : Own K H S n t v F) (hf : t.flat = true) : F = [] ∧ ∀ m S', Own K H S' m t v [] := by
  cases t with
  | non => cases h; exact ⟨rfl, fun _ _ => .non⟩
  | bl _ => cases h; exact ⟨rfl, fun _ _ => .bl _⟩
  | int _ => cases h; exact ⟨rfl, fun _ _ => .int _⟩
  | str _ => cases h; exact ⟨rfl, fun _ _ => .str _⟩
  | scr _ =>
    cases h with
    | scr q => exact ⟨rfl, fun _ _ => .scr q⟩
  | tup ts =>
    cases h with
    | tupf q f r => exact ⟨rfl, fun m S' => .tupf q f ((Owns.flat0 r f).2 0 S')⟩
    | tup0 q r =>
      have f : T.flats ts = true := by rw [T.flat, T.flatAt] at hf; exact hf
      exact ⟨rfl, fun m S' => .tupf q f ((Owns.flat0 r f).2 0 S')⟩
    | tup q r =>
      have f : T.flats ts = true := by rw [T.flat, T.flatAt] at hf; exact hf
      have z := Owns.flat0 r f
      exact ⟨z.1, fun m S' => .tupf (SqT.of q) f (z.2 0 S')⟩
  | opq _ => cases h; exact ⟨rfl, fun _ _ => .opq _⟩
  | exc _ _ _ _ => rw [T.flat, T.flatAt] at hf; cases hf
  | nd _ ts => rw [T.flat, T.flatAt] at hf; cases hf
theorem Owns.flat0 {ts : List T} {n : Nat} {vs : List V} {F : List Addr} (h : Owns K H S n ts vs F) (hf : T.flats ts = true) : F = [] ∧ ∀ m S', Owns K H S' m ts vs [] := by
  cases ts with
  | nil => cases h; exact ⟨rfl, fun _ _ => .nil⟩
  | cons t ts =>
    rw [T.flats, T.flatAts, Bool.and_eq_true] at hf
    cases h with
    | cons a r =>
      have z1 := Own.flat0 a hf.1
      have z2 := Owns.flat0 r hf.2
      refine ⟨by rw [z1.1, z2.1]; rfl, fun m S' => ?_⟩
      have q := Owns.cons (z1.2 m S') (z2.2 m S')
      exact q
end
-- less is owned: what is given up goes to S 
mutual
theorem Own.less {t : T} {n m : Nat} {v : V} {F : List Addr} (h : Own K H S n t v F) (hm : m ≤ n) :
    ∃ F' : List Addr, F'.Sublist F ∧ ∀ S' : Addr → Prop, (∀ a, S a → S' a) → (∀ a ∈ F, a ∉ F' → S' a) → F.Nodup → Own K H S' m t v F' := by
  cases t with
  | non => cases h; exact ⟨[], List.Sublist.refl _, fun _ _ _ _ => .non⟩
  | bl _ => cases h; exact ⟨[], List.Sublist.refl _, fun _ _ _ _ => .bl _⟩
  | int _ => cases h; exact ⟨[], List.Sublist.refl _, fun _ _ _ _ => .int _⟩
  | str _ => cases h; exact ⟨[], List.Sublist.refl _, fun _ _ _ _ => .str _⟩
  | scr _ =>
    cases h with
    | scr q => exact ⟨[], List.Sublist.refl _, fun _ _ _ _ => .scr q⟩
  | tup ts =>
    cases h with
    | tupf q f r => exact ⟨[], List.Sublist.refl _, fun S' h1 h2 h3 => .tupf q f ((Owns.flat0 r f).2 0 S')⟩
    | tup0 q r =>
      have e : m = 0 := by omega
      subst e
      exact ⟨[], List.Sublist.refl _, fun S' h1 _ _ => .tup0 q (Owns.keep h1 r ⟨fun _ _ e => e, fun _ _ _ e => e, fun _ _ _ e => e⟩)⟩
    | @tup n a vs ts F q r =>
      cases m with
      | zero =>
        obtain ⟨F', sb, k⟩ := Owns.less r (m := 0) (Nat.zero_le _)
        refine ⟨[], List.nil_sublist _, fun S' h1 h2 h3 => ?_⟩
        have z := k S' h1 (fun b hb _ => h2 b hb (by simp)) h3
        have e := Owns.zero z
        subst e
        exact .tup0 (SqT.of q) z
      | succ m =>
        obtain ⟨F', sb, k⟩ := Owns.less r (m := m) (by omega)
        exact ⟨F', sb, fun S' h1 h2 h3 => .tup q (k S' h1 h2 h3)⟩
  | opq _ => cases h; exact ⟨[], List.Sublist.refl _, fun _ _ _ _ => .opq _⟩
  | exc _ _ _ _ =>
    cases h with
    | exc e s => exact ⟨[], List.Sublist.refl _, fun S' h1 _ _ => .exc e (h1 _ s)⟩
  | nd k ts =>
    cases h with
    | snd q r =>
      have e : m = 0 := by omega
      subst e
      have kr : Kp H H S [] := ⟨fun _ _ e => e, fun _ _ _ e => e, fun _ _ _ e => e⟩
      exact ⟨[], List.Sublist.refl _, fun S' h1 _ _ => .snd (kr.sqN h1 q) (Owns.keep h1 r ⟨fun _ _ e => e, fun _ _ _ e => e, fun _ _ _ e => e⟩)⟩
    | @nd n _ a o vs ts F q i r =>
      cases m with
      | zero =>
        obtain ⟨F', sb, k⟩ := Owns.less r (m := 0) (Nat.zero_le _)
        refine ⟨[], List.nil_sublist _, fun S' h1 h2 h3 => ?_⟩
        have h3' := List.nodup_cons.mp h3
        have z := k S' h1 (fun b hb _ => h2 b (List.mem_cons_of_mem _ hb) (by simp)) h3'.2
        have e := Owns.zero z
        subst e
        exact .snd ⟨o, i, .inl ⟨q, h2 a List.mem_cons_self (by simp)⟩⟩ z
      | succ m =>
        obtain ⟨F', sb, k⟩ := Owns.less r (m := m) (by omega)
        refine ⟨a :: F', sb.cons_cons a, fun S' h1 h2 h3 => ?_⟩
        have h3' := List.nodup_cons.mp h3
        refine .nd q i (k S' h1 (fun b hb hn => h2 b (List.mem_cons_of_mem _ hb) fun hc => ?_) h3'.2)
        rcases List.mem_cons.mp hc with e | hc
        · subst e; exact h3'.1 hb
        · exact hn hc
theorem Owns.less {ts : List T} {n m : Nat} {vs : List V} {F : List Addr} (h : Owns K H S n ts vs F) (hm : m ≤ n) :
    ∃ F' : List Addr, F'.Sublist F ∧ ∀ S' : Addr → Prop, (∀ a, S a → S' a) → (∀ a ∈ F, a ∉ F' → S' a) → F.Nodup → Owns K H S' m ts vs F' := by
  cases ts with
  | nil => cases h; exact ⟨[], List.Sublist.refl _, fun _ _ _ _ => .nil⟩
  | cons t ts =>
    cases h with
    | @cons n t ts v vs F G a r =>
      obtain ⟨F', s1, k1⟩ := Own.less a hm
      obtain ⟨G', s2, k2⟩ := Owns.less r hm
      refine ⟨F' ++ G', s1.append s2, fun S' h1 h2 h3 => ?_⟩
      obtain ⟨n1, n2, n3⟩ := List.nodup_append.mp h3
      refine .cons (k1 S' h1 (fun b hb hn => h2 b (List.mem_append_left _ hb) fun hc => ?_) n1) (k2 S' h1 (fun b hb hn => h2 b (List.mem_append_right _ hb) fun hc => ?_) n2)
      · rcases List.mem_append.mp hc with hc | hc
        · exact hn hc
        · exact n3 b hb b (s2.subset hc) rfl
      · rcases List.mem_append.mp hc with hc | hc
        · exact n3 b (s1.subset hc) b hb rfl
        · exact hn hc
end
theorem kp_refl {F : List Addr} : Kp H H S F := ⟨fun _ _ e => e, fun _ _ _ e => e, fun _ _ _ e => e⟩
theorem Own.mono (hS : ∀ a, S a → S' a) {t : T} {n : Nat} {v : V} {F : List Addr} (h : Own K H S n t v F) : Own K H S' n t v F := h.keep hS kp_refl
theorem Owns.mono (hS : ∀ a, S a → S' a) {ts : List T} {n : Nat} {vs : List V} {F : List Addr} (h : Owns K H S n ts vs F) : Owns K H S' n ts vs F := Owns.keep hS h kp_refl
-- the nodes in S stand
mutual
theorem Own.trk {t : T} {n : Nat} {v : V} {F : List Addr} (h : Own K H S n t v F) : Own K H (fun a => S a ∧ H a ≠ none) n t v F := by
  cases t with
  | non => cases h; exact .non
  | bl _ => cases h; exact .bl _
  | int _ => cases h; exact .int _
  | str _ => cases h; exact .str _
  | scr _ =>
    cases h with
    | scr q => exact .scr q
  | tup ts =>
    cases h with
    | tupf q f r => exact .tupf q f (Owns.trk r)
    | tup0 q r => exact .tup0 q (Owns.trk r)
    | tup q r => exact .tup q (Owns.trk r)
  | opq _ => cases h; exact .opq _
  | exc _ _ _ _ =>
    cases h with
    | exc e s => exact .exc e ⟨s, fun z => by rw [e] at z; cases z⟩
  | nd _ ts =>
    cases h with
    | snd q r =>
      obtain ⟨o, i, q | q⟩ := q
      · exact .snd ⟨o, i, .inl ⟨q.1, q.2, fun z => by rw [q.1] at z; cases z⟩⟩ (Owns.trk r)
      · exact .snd ⟨o, i, .inr q⟩ (Owns.trk r)
    | nd q i r => exact .nd q i (Owns.trk r)
theorem Owns.trk {ts : List T} {n : Nat} {vs : List V} {F : List Addr} (h : Owns K H S n ts vs F) : Owns K H (fun a => S a ∧ H a ≠ none) n ts vs F := by
  cases ts with
  | nil => cases h; exact .nil
  | cons t ts =>
    cases h with
    | cons a r => exact .cons (Own.trk a) (Owns.trk r)
end
-- read as shared by whoever takes all that is owned for shared
mutual
theorem Own.shr {t : T} {n : Nat} {v : V} {F : List Addr} (h : Own K H S n t v F) (hS : ∀ a, S a → S' a) (hF : ∀ a ∈ F, S' a) : Shr K H S' t v := by
  cases t with
  | non => cases h; exact .non
  | bl _ => cases h; exact .bl _
  | int _ => cases h; exact .int _
  | str _ => cases h; exact .str _
  | scr _ =>
    cases h with
    | scr q => exact .scr q
  | tup ts =>
    cases h with
    | tupf q f r => exact .tup0 q (r.mono hS)
    | tup0 q r => exact .tup0 q (r.mono hS)
    | tup q r => exact .tup0 (SqT.of q) (Owns.shr r hS hF)
  | opq _ => cases h; exact .opq _
  | exc _ _ _ _ =>
    cases h with
    | exc e s => exact .exc e (hS _ s)
  | nd _ ts =>
    cases h with
    | snd q r => exact (Own.snd q r).mono hS
    | nd q i r => exact .snd ⟨_, i, .inl ⟨q, hF _ List.mem_cons_self⟩⟩ (Owns.shr r hS fun a m => hF a (List.mem_cons_of_mem _ m))
theorem Owns.shr {ts : List T} {n : Nat} {vs : List V} {F : List Addr} (h : Owns K H S n ts vs F) (hS : ∀ a, S a → S' a) (hF : ∀ a ∈ F, S' a) : Shrs K H S' ts vs := by
  cases ts with
  | nil => cases h; exact .nil
  | cons t ts =>
    cases h with
    | cons a r =>
      have q := Owns.cons (Own.shr a hS fun b m => hF b (List.mem_append_left _ m)) (Owns.shr r hS fun b m => hF b (List.mem_append_right _ m))
      exact q
end
/-! ### reading shared values -/
theorem SqS.sq {a : Addr} {vs : List V} (h : SqS H S a vs) : SqL K H a vs := .inl (.inl h.1)
theorem SqF.sq {a : Addr} {vs : List V} (h : SqF K H a vs) : SqL K H a vs := by
  rcases h with h | h
  · exact .inl (.inr h)
  · exact .inr h
theorem shr_scr {ns : List Int} {v : V} (h : Shr K H S (.scr ns) v) : ∃ a, v = .ref a ∧ SqF K H a (ns.map V.int) := by
  cases h with
  | scr q => exact ⟨_, rfl, q⟩
theorem sqN_lst {a : Addr} {vs : List V} : SqN H S .lst a vs ↔ SqS H S a vs := by
  constructor
  · rintro ⟨o, i, h | ⟨l, _⟩⟩
    · obtain rfl : o = .lst vs := i
      exact h
    · cases l
  · exact fun h => ⟨_, rfl, .inl h⟩
theorem Own.sls {a : Addr} {vs : List V} {ts : List T} (q : SqS H S a vs) (r : Owns K H S 0 ts vs []) : Own K H S 0 (.lst ts) (.ref a) [] := .snd (sqN_lst.mpr q) r
theorem Own.lst {n : Nat} {a : Addr} {vs : List V} {ts : List T} {F : List Addr} (q : H a = some (.lst vs)) (r : Owns K H S n ts vs F) : Own K H S (n + 1) (.lst ts) (.ref a) (a :: F) := .nd q rfl r
theorem shr_nd {k : NK} {ts : List T} {v : V} (h : Shr K H S (.nd k ts) v) : ∃ a vs, v = .ref a ∧ SqN H S k a vs ∧ Shrs K H S ts vs := by
  cases h with
  | snd q r => exact ⟨_, _, rfl, q, r⟩
theorem own_nlst {n : Nat} {ts : List T} {v : V} {F : List Addr} (h : Own K H S (n + 1) (.lst ts) v F) : ∃ a vs G, v = .ref a ∧ F = a :: G ∧ H a = some (.lst vs) ∧ Owns K H S n ts vs G := by
  cases h with
  | nd q i r =>
    cases i
    exact ⟨_, _, _, rfl, rfl, q, r⟩
theorem shr_opq {a : Addr} {v : V} (h : Shr K H S (.opq a) v) : v = .ref a := by cases h; rfl
theorem shr_lst {ts : List T} {v : V} (h : Shr K H S (.lst ts) v) : ∃ a vs, v = .ref a ∧ SqS H S a vs ∧ Shrs K H S ts vs := by
  cases h with
  | snd q r => exact ⟨_, _, rfl, sqN_lst.mp q, r⟩
theorem shr_tup {ts : List T} {v : V} (h : Shr K H S (.tup ts) v) : ∃ a vs, v = .ref a ∧ SqT K H a vs ∧ Shrs K H S ts vs := by
  cases h with
  | tupf q _ r => exact ⟨_, _, rfl, q, r⟩
  | tup0 q r => exact ⟨_, _, rfl, q, r⟩
theorem shr_int {i : Int} {v : V} (h : Shr K H S (.int i) v) : v = .int i := by cases h; rfl
theorem shr_bl {i : Bool} {v : V} (h : Shr K H S (.bl i) v) : v = .bl i := by cases h; rfl
theorem shr_str {i : Str} {v : V} (h : Shr K H S (.str i) v) : v = .str i := by cases h; rfl
theorem shr_non {v : V} (h : Shr K H S .non v) : v = .non := by cases h; rfl
theorem Shrs.cons {t : T} {ts : List T} {v : V} {vs : List V} (a : Shr K H S t v) (r : Shrs K H S ts vs) : Shrs K H S (t :: ts) (v :: vs) := Owns.cons a r
theorem Shrs.uncons {t : T} {ts : List T} {vs : List V} (h : Shrs K H S (t :: ts) vs) : ∃ v r, vs = v :: r ∧ Shr K H S t v ∧ Shrs K H S ts r := by
  unfold Shrs at h
  generalize hF : ([] : List Addr) = F at h
  cases h with
  | @cons n t ts v vs F G a r =>
    have e1 := a.zero
    have e2 := Owns.zero r
    subst e1; subst e2
    exact ⟨_, _, rfl, a, r⟩
theorem Shrs.get : ∀ {ts : List T} {vs : List V} {i : Nat} {t : T}, Shrs K H S ts vs → ts[i]? = some t → ∃ v, vs[i]? = some v ∧ Shr K H S t v
  | [], _, _, _, _, e => by simp at e
  | t :: ts, vs, i, u, h, e => by
    obtain ⟨v, r, rfl, a, b⟩ := h.uncons
    cases i with
    | zero =>
      simp at e
      subst e
      exact ⟨v, rfl, a⟩
    | succ i => exact Shrs.get (i := i) b (by simpa using e)
theorem Shrs.append : ∀ {ts us : List T} {vs ws : List V}, Shrs K H S ts vs → Shrs K H S us ws → Shrs K H S (ts ++ us) (vs ++ ws)
  | [], _, _, _, h, g => by
    have e := h.length
    cases h
    exact g
  | t :: ts, us, vs, ws, h, g => by
    obtain ⟨v, r, rfl, a, b⟩ := h.uncons
    exact Shrs.cons a (Shrs.append b g)
theorem Shrs.take : ∀ {ts : List T} {vs : List V} (n : Nat), Shrs K H S ts vs → Shrs K H S (ts.take n) (vs.take n)
  | _, _, 0, _ => .nil
  | [], vs, n + 1, h => by cases h; exact .nil
  | t :: ts, vs, n + 1, h => by
    obtain ⟨v, r, rfl, a, b⟩ := h.uncons
    exact Shrs.cons a (Shrs.take n b)
theorem Shrs.drop : ∀ {ts : List T} {vs : List V} (n : Nat), Shrs K H S ts vs → Shrs K H S (ts.drop n) (vs.drop n)
  | _, _, 0, h => h
  | [], vs, n + 1, h => by cases h; exact .nil
  | t :: ts, vs, n + 1, h => by
    obtain ⟨v, r, rfl, a, b⟩ := h.uncons
    exact Shrs.drop n b
theorem Shrs.ints : ∀ {is : List Int} {vs : List V}, Shrs K H S (is.map T.int) vs → vs = is.map V.int
  | [], _, h => by cases h; rfl
  | i :: is, vs, h => by
    obtain ⟨v, r, rfl, a, b⟩ := h.uncons
    rw [shr_int a, Shrs.ints b]
    rfl
theorem Shrs.of_ints : ∀ {is : List Int}, Shrs K H S (is.map T.int) (is.map V.int)
  | [] => .nil
  | i :: is => Shrs.cons (Own.int i) Shrs.of_ints
end
end TL
set_option Elab.async false
set_option linter.all false
set_option maxRecDepth 100000
namespace TL
open PySem PySem.Spec PyProof.Rows L2

/-! ### what is known of a slot -/
abbrev St := L2.St
inductive Ent where
  | no | ow (n : Nat) (t : T) | io (n : Nat) (t : T) | ro (t : T) | al (j i : Nat) (t : T)
def Ent.tr : Ent → Option T
  | .no => none
  | .ow _ t => some t
  | .io _ t => some t
  | .ro t => some t
  | .al _ _ t => some t
def Ent.own : Ent → Option (Nat × T)
  | .ow n t => some (n, t)
  | .io n t => some (n, t)
  | _ => none
def Ent.put (t : T) : Ent → Ent
  | .ow n _ => .ow n t
  | .io n _ => .io n t
  | e => e
structure Root where
  e : Ent
  o : Option V
  F : List Addr
structure Fm where
  S0 : Addr → Prop
  H0 : Hp
  W : List Addr
  v0 : St
def SlotR (K : PySem.W.Frag) (H : Hp) (S : Addr → Prop) : Ent → Option V → List Addr → Prop
  | .no, _, F => F = []
  | .ow n t, o, F => ∃ v, o = some v ∧ Own K H S n t v F
  | .io n t, o, F => ∃ v, o = some v ∧ Own K H S n t v F
  | .ro t, o, F => F = [] ∧ ∃ v, o = some v ∧ Shr K H (fun _ => True) t v
  | .al _ _ _, o, F => F = [] ∧ ∃ v, o = some v
/-- the way down from a tree (at v) along places to a part of it -/
inductive Way (H : Hp) : T → V → List Nat → T → V → Prop
  | nil {t : T} {v : V} : Way H t v [] t v
  | nd {b : Addr} {k : NK} {o : HO} {vs : List V} {ts : List T} {i : Nat} {t1 t2 : T} {v1 v2 : V} {p : List Nat} : H b = some o → k.is o vs → vs[i]? = some v1 → ts[i]? = some t1 → Way H t1 v1 p t2 v2 → Way H (.nd k ts) (.ref b) (i :: p) t2 v2
  | tup {b : Addr} {vs : List V} {ts : List T} {i : Nat} {t1 t2 : T} {v1 v2 : V} {p : List Nat} : H b = some (.tup vs) → vs[i]? = some v1 → ts[i]? = some t1 → Way H t1 v1 p t2 v2 → Way H (.tup ts) (.ref b) (i :: p) t2 v2
theorem Way.lst {H : Hp} {b : Addr} {vs : List V} {ts : List T} {i : Nat} {t1 t2 : T} {v1 v2 : V} {p : List Nat} (h : H b = some (.lst vs)) (h1 : vs[i]? = some v1) (h2 : ts[i]? = some t1) (w : Way H t1 v1 p t2 v2) : Way H (.lst ts) (.ref b) (i :: p) t2 v2 := .nd h rfl h1 h2 w
/-- slot k holds item i of what slot j owns -/
structure AlOk (K : PySem.W.Frag) (H : Hp) (S : Addr → Prop) (rs : List Root) (σ : St) (k j i : Nat) (t : T) : Prop where
  ex : ∃ (r : Root) (n : Nat) (U : T) (v0 v : V) (Fi : List Addr), rs[j]? = some r ∧ r.e.own = some (n + 1, U) ∧ r.o = some v0 ∧ σ[k]? = some (some v) ∧ Way H U v0 [i] t v ∧ Own K H S n t v Fi ∧ ∀ b ∈ Fi, b ∈ r.F
structure Good (K : PySem.W.Frag) (f : Fm) (S : Addr → Prop) (rs : List Root) (H : Hp) : Prop where
  slot : ∀ (k : Nat) r, rs[k]? = some r → SlotR K H S r.e r.o r.F ∧ r.F.Nodup ∧ ∀ a ∈ r.F, ¬ S a ∧ (f.H0 a = none ∨ a ∈ f.W)
  dj : ∀ (k l : Nat) r q, rs[k]? = some r → rs[l]? = some q → k ≠ l → ∀ a ∈ r.F, a ∉ q.F
  trk : ∀ a, S a → H a ≠ none
  fr : ∀ a o, f.H0 a = some o → a ∉ f.W → H a = some o
  src : ∀ a, S a → f.S0 a ∨ f.H0 a = none ∨ a ∈ f.W
structure StaW (K : PySem.W.Frag) (f : Fm) (τ : List Root) (ρ : List Ent) (σ : St) (H : Hp) (S : Addr → Prop) (rs : List Root) : Prop where
  e : rs.map (·.e) = ρ
  o : rs.map (·.o) = σ
  good : Good K f S (rs ++ τ) H
  al : ∀ k j i t, ρ[k]? = some (.al j i t) → AlOk K H S rs σ k j i t
  io : ∀ (i : Nat) n t, ρ[i]? = some (.io n t) → σ[i]? = f.v0[i]?
  tm : ∀ r ∈ τ, ∃ n t, r.e = .ow n t
def Sta (K : PySem.W.Frag) (f : Fm) (τ : List Root) (ρ : List Ent) (σ : St) (H : Hp) : Prop := ∃ S rs, StaW K f τ ρ σ H S rs

/-! ### reading -/
def RdS (K : PySem.W.Frag) (S : Addr → Prop) (ρ : List Ent) (σ : St) (H : Hp) : Prop := ∀ (i : Nat) e t, ρ[i]? = some e → e.tr = some t → ∃ v, σ[i]? = some (some v) ∧ Shr K H S t v
def fresh (S : Addr → Prop) (H : Hp) : Addr → Prop := fun a => S a ∨ H a = none
def shE : Ent → Ent
  | .ow 0 t => .ow 0 t
  | _ => .no
def shOnly (ρ : List Ent) : List Ent := ρ.map shE
def noRo (js : List Nat) : Ent → Ent
  | .ro _ => .no
  | .al j i t => if j ∈ js then .no else .al j i t
  | e => e
def killJ (js : List Nat) (ρ : List Ent) : List Ent := ρ.map (noRo js)
def noRA : Ent → Ent
  | .ro _ => .no
  | .al _ _ _ => .no
  | e => e
def notIn (js : List Nat) (ρ : List Ent) : List Ent := js.foldl (fun ρ j => ρ.set j .no) (ρ.map noRA)
def noAl (i : Nat) : Ent → Ent
  | .al j k t => if j = i then .no else .al j k t
  | e => e
def killA (i : Nat) (ρ : List Ent) : List Ent := ρ.map (noAl i)
def setE (ρ : List Ent) (i : Nat) (e : Ent) : List Ent := (killA i ρ).set i e

section
variable {K : PySem.W.Frag} {f : Fm} {S S' : Addr → Prop} {H H' : Hp} {τ rs rs' : List Root} {ρ ρ' : List Ent} {σ : St}
theorem RdS.same (r : RdS K S ρ σ H) (s : Same H H') : RdS K (fresh S H) ρ σ H' := fun i e t h1 h2 => by
  obtain ⟨v, h3, h4⟩ := r i e t h1 h2
  exact ⟨v, h3, h4.keep (fun _ => .inl) (.same s)⟩
theorem RdS.mono (r : RdS K S ρ σ H) (hS : ∀ a, S a → S' a) : RdS K S' ρ σ H := fun i e t h1 h2 => by
  obtain ⟨v, h3, h4⟩ := r i e t h1 h2
  exact ⟨v, h3, h4.mono hS⟩
theorem fresh_trans (s : Same H H') {a : Addr} (h : fresh (fresh S H) H' a) : fresh S H a := by
  rcases h with h | h
  · exact h
  · exact .inr (s.free h)
theorem SlotR.rd {e : Ent} {o : Option V} {F : List Addr} {t : T} (h : SlotR K H S e o F) (ht : e.tr = some t) (ha : ∀ j i u, e ≠ .al j i u) : ∃ v, o = some v ∧ Shr K H (fun _ => True) t v := by
  cases e with
  | no => cases ht
  | ow n u => cases ht; obtain ⟨v, e, q⟩ := h; exact ⟨v, e, q.shr (fun _ _ => trivial) (fun _ _ => trivial)⟩
  | io n u => cases ht; obtain ⟨v, e, q⟩ := h; exact ⟨v, e, q.shr (fun _ _ => trivial) (fun _ _ => trivial)⟩
  | ro u => cases ht; exact h.2
  | al j i u => exact absurd rfl (ha j i u)
theorem SlotR.own {e : Ent} {o : Option V} {F : List Addr} {n : Nat} {t : T} (h : SlotR K H S e o F) (ht : e.own = some (n, t)) : ∃ v, o = some v ∧ Own K H S n t v F := by
  cases e with
  | no => cases ht
  | ow n u => cases ht; exact h
  | io n u => cases ht; exact h
  | ro u => cases ht
  | al j i u => cases ht
theorem StaW.get (s : StaW K f τ ρ σ H S rs) {i : Nat} {e : Ent} (h : ρ[i]? = some e) : ∃ r, (rs ++ τ)[i]? = some r ∧ r.e = e ∧ σ[i]? = some r.o ∧ rs[i]? = some r := by
  have h' := h
  rw [← s.e, List.getElem?_map] at h'
  cases q : rs[i]? with
  | none => rw [q] at h'; cases h'
  | some r =>
    rw [q] at h'
    refine ⟨r, ?_, Option.some.inj h', ?_, rfl⟩
    · rw [List.getElem?_append_left (List.getElem?_eq_some_iff.mp q).1]; exact q
    · rw [← s.o, List.getElem?_map, q]; rfl
theorem StaW.len (s : StaW K f τ ρ σ H S rs) : rs.length = ρ.length := by rw [← s.e, List.length_map]
theorem StaW.lenσ (s : StaW K f τ ρ σ H S rs) : rs.length = σ.length := by rw [← s.o, List.length_map]
theorem StaW.rdAll (s : StaW K f τ ρ σ H S rs) : RdS K (fun _ => True) ρ σ H := fun i e t h1 h2 => by
  cases ea : e with
  | al j i' u =>
    subst ea
    cases h2
    obtain ⟨r, n, U, v0, v, Fi, _, _, _, a4, _, a6, _⟩ := (s.al i j i' t h1).ex
    exact ⟨v, a4, a6.shr (fun _ _ => trivial) (fun _ _ => trivial)⟩
  | _ =>
    obtain ⟨r, q1, q2, q3, _⟩ := s.get h1
    obtain ⟨v, e, h⟩ := (s.good.slot i r q1).1.rd (q2 ▸ h2) (by rw [q2, ea]; intro _ _ _ z; cases z)
    exact ⟨v, by rw [q3, e], h⟩
theorem Sta.rdAll (s : Sta K f τ ρ σ H) : RdS K (fun _ => True) ρ σ H := let ⟨_, _, s⟩ := s; s.rdAll
theorem StaW.rdSh (s : StaW K f τ ρ σ H S rs) : RdS K S (shOnly ρ) σ H := fun i e t h1 h2 => by
  unfold shOnly at h1
  rw [List.getElem?_map] at h1
  cases q : ρ[i]? with
  | none => rw [q] at h1; cases h1
  | some e0 =>
    rw [q] at h1
    have h1 := Option.some.inj h1
    subst h1
    obtain ⟨r, q1, rfl, q3, _⟩ := s.get q
    have z := (s.good.slot i r q1).1
    cases er : r.e with
    | ow n u =>
      cases n with
      | zero =>
        rw [er] at h2 z
        cases h2
        obtain ⟨v, e, h⟩ := z
        have e2 := h.zero
        rw [e2] at h
        exact ⟨v, by rw [q3, e], h⟩
      | succ n => rw [er] at h2; cases h2
    | no => rw [er] at h2; cases h2
    | io _ _ => rw [er] at h2; cases h2
    | ro _ => rw [er] at h2; cases h2
    | al _ _ _ => rw [er] at h2; cases h2

/-! ### keeping the state -/
theorem SlotR.keep {e : Ent} {o : Option V} {F : List Addr} (h : SlotR K H S e o F) (hS : ∀ a, S a → S' a) (k : Kp H H' S F) (kr : ∀ t, e = .ro t → Kp H H' (fun _ => True) []) : SlotR K H' S' e o F := by
  cases e with
  | no => exact h
  | ow n u => obtain ⟨v, e, q⟩ := h; exact ⟨v, e, q.keep hS k⟩
  | io n u => obtain ⟨v, e, q⟩ := h; exact ⟨v, e, q.keep hS k⟩
  | ro u => obtain ⟨e, v, e2, q⟩ := h; exact ⟨e, v, e2, q.keep (fun _ z => z) (kr u rfl)⟩
  | al j i u => exact h
theorem Way.same {t u : T} {v x : V} {p : List Nat} (w : Way H t v p u x) (s : Same H H') : Way H' t v p u x := by
  induction w with
  | nil => exact .nil
  | nd h1 h2 h3 h4 _ ih => exact .nd (s _ _ h1) h2 h3 h4 ih
  | tup h1 h2 h3 _ ih => exact .tup (s _ _ h1) h2 h3 ih
theorem AlOk.same {k j i : Nat} {t : T} (h : AlOk K H S rs σ k j i t) (s : Same H H') : AlOk K H' S rs σ k j i t := by
  obtain ⟨r, n, U, v0, v, Fi, a1, a2, a3, a4, a5, a6, a7⟩ := h.ex
  exact ⟨⟨r, n, U, v0, v, Fi, a1, a2, a3, a4, a5.same s, a6.keep (fun _ z => z) (.same s), a7⟩⟩
theorem AlOk.mono {k j i : Nat} {t : T} (h : AlOk K H S rs σ k j i t) (hS : ∀ a, S a → S' a) : AlOk K H S' rs σ k j i t := by
  obtain ⟨r, n, U, v0, v, Fi, a1, a2, a3, a4, a5, a6, a7⟩ := h.ex
  exact ⟨⟨r, n, U, v0, v, Fi, a1, a2, a3, a4, a5, a6.mono hS, a7⟩⟩
theorem StaW.same (s : StaW K f τ ρ σ H S rs) (k : Same H H') : StaW K f τ ρ σ H' S rs where
  e := s.e
  o := s.o
  good := ⟨fun m r e => let ⟨a, b, c⟩ := s.good.slot m r e; ⟨a.keep (fun _ z => z) (.same k) (fun _ _ => .same k), b, c⟩, s.good.dj, fun a h z => s.good.trk a h (k.free z), fun a o h1 h2 => k _ _ (s.good.fr a o h1 h2), s.good.src⟩
  al := fun k' j i t h => (s.al k' j i t h).same k
  io := s.io
  tm := s.tm
theorem Sta.same (s : Sta K f τ ρ σ H) (k : Same H H') : Sta K f τ ρ σ H' := let ⟨S, rs, s⟩ := s; ⟨S, rs, s.same k⟩
/-- fewer roots, weaker roots -/
theorem Good.pick (G : Good K f S rs H) (g : Nat → Nat) (old : ∀ m r, rs'[m]? = some r → (r.e = .no ∧ r.F = []) ∨ rs[g m]? = some r)
    (inj : ∀ m l r q, rs'[m]? = some r → rs'[l]? = some q → r.F ≠ [] → q.F ≠ [] → g m = g l → m = l) : Good K f S rs' H where
  slot := fun m r e => by
    rcases old m r e with ⟨h2, h3⟩ | h1
    · refine ⟨?_, by rw [h3]; exact List.nodup_nil, fun a z => by rw [h3] at z; cases z⟩
      rw [h2]; exact h3
    · exact G.slot _ _ h1
  dj := fun m l r q e1 e2 ne a ha hb => by
    rcases old m r e1 with ⟨_, h2⟩ | h1
    · rw [h2] at ha; cases ha
    · rcases old l q e2 with ⟨_, h4⟩ | h3
      · rw [h4] at hb; cases hb
      · exact G.dj _ _ _ _ h1 h3 (fun z => ne (inj m l r q e1 e2 (List.ne_nil_of_mem ha) (List.ne_nil_of_mem hb) z)) a ha hb
  trk := G.trk
  fr := G.fr
  src := G.src
/-- the k-th root anew, the heap changed, more in S -/
theorem Good.repl (G : Good K f S rs H) (g : Nat → Nat) (k : Nat) {r' : Root} (hk : rs'[k]? = some r')
    (old : ∀ m r, m ≠ k → rs'[m]? = some r → (r.e = .no ∧ r.F = []) ∨ rs[g m]? = some r)
    (inj : ∀ m l r q, m ≠ k → l ≠ k → rs'[m]? = some r → rs'[l]? = some q → r.F ≠ [] → q.F ≠ [] → g m = g l → m = l)
    (new : SlotR K H' S' r'.e r'.o r'.F) (nd : r'.F.Nodup) (nS : ∀ a ∈ r'.F, ¬ S' a ∧ (f.H0 a = none ∨ a ∈ f.W)) (ndj : ∀ a ∈ r'.F, ∀ m q, m ≠ k → rs'[m]? = some q → rs[g m]? = some q → a ∉ q.F)
    (hS : ∀ a, S a → S' a) (hS' : ∀ m q, m ≠ k → rs'[m]? = some q → rs[g m]? = some q → ∀ a ∈ q.F, ¬ S' a)
    (kp : ∀ m q, m ≠ k → rs'[m]? = some q → rs[g m]? = some q → Kp H H' S q.F ∧ (∀ t, q.e = .ro t → Kp H H' (fun _ => True) []))
    (trk : ∀ a, S' a → H' a ≠ none) (fr : ∀ a o, f.H0 a = some o → a ∉ f.W → H' a = some o) (src : ∀ a, S' a → f.S0 a ∨ f.H0 a = none ∨ a ∈ f.W) : Good K f S' rs' H' where
  slot := fun m r e => by
    by_cases hm : m = k
    · subst hm
      rw [hk] at e; cases e
      exact ⟨new, nd, nS⟩
    · rcases old m r hm e with ⟨h2, h3⟩ | h1
      · refine ⟨?_, by rw [h3]; exact List.nodup_nil, fun a z => by rw [h3] at z; cases z⟩
        rw [h2]; exact h3
      · obtain ⟨a, b, c⟩ := G.slot _ _ h1
        obtain ⟨kp1, kp2⟩ := kp m r hm e h1
        exact ⟨a.keep hS kp1 kp2, b, fun x hx => ⟨hS' m r hm e h1 x hx, (c x hx).2⟩⟩
  dj := fun m l r q e1 e2 ne a ha hb => by
    by_cases hm : m = k
    · subst hm
      rw [hk] at e1; cases e1
      have hl : l ≠ m := fun z => ne z.symm
      rcases old l q hl e2 with ⟨_, h4⟩ | h3
      · rw [h4] at hb; cases hb
      · exact ndj a ha l q hl e2 h3 hb
    · rcases old m r hm e1 with ⟨_, h2⟩ | h1
      · rw [h2] at ha; cases ha
      · by_cases hl : l = k
        · subst hl
          rw [hk] at e2; cases e2
          exact ndj a hb m r hm e1 h1 ha
        · rcases old l q hl e2 with ⟨_, h4⟩ | h3
          · rw [h4] at hb; cases hb
          · exact G.dj _ _ _ _ h1 h3 (fun z => ne (inj m l r q hm hl e1 e2 (List.ne_nil_of_mem ha) (List.ne_nil_of_mem hb) z)) a ha hb
  trk := trk
  fr := fr
  src := src
end
end TL
set_option Elab.async false
set_option linter.all false
set_option maxRecDepth 100000
namespace TL
open PySem PySem.Spec PyProof.Rows L2

abbrev tmp (n : Nat) (t : T) (v : V) (F : List Addr) : Root := ⟨.ow n t, some v, F⟩
theorem getElem?_app {α : Type} {l r : List α} {i : Nat} {x : α} (h : l[i]? = some x) : (l ++ r)[i]? = some x := by
  rw [List.getElem?_append_left (List.getElem?_eq_some_iff.mp h).1]; exact h
theorem app_old {α : Type} {l r : List α} {x : α} {m : Nat} {y : α} (h : (l ++ r ++ [x])[m]? = some y) : (m = (l ++ r).length ∧ y = x) ∨ (m < (l ++ r).length ∧ (l ++ r)[m]? = some y) := by
  by_cases hm : m < (l ++ r).length
  · exact .inr ⟨hm, by rw [List.getElem?_append_left hm] at h; exact h⟩
  · have hl := (List.getElem?_eq_some_iff.mp h).1
    rw [List.length_append, List.length_singleton] at hl
    have e : m = (l ++ r).length := by omega
    rw [e, List.getElem?_append_right (Nat.le_refl _), Nat.sub_self] at h
    exact .inl ⟨e, by simpa using h.symm⟩
theorem getElem?_last {α : Type} {l : List α} {x : α} : (l ++ [x])[l.length]? = some x := by
  rw [List.getElem?_append_right (Nat.le_refl _), Nat.sub_self]; rfl
section
variable {K : PySem.W.Frag} {f : Fm} {S S' : Addr → Prop} {H H' : Hp} {τ τ' rs rs' : List Root} {ρ ρ' : List Ent} {σ : St}
theorem Good.own_there (G : Good K f S rs H) {k : Nat} {r : Root} (h : rs[k]? = some r) {a : Addr} (ha : a ∈ r.F) : ∃ o : HO, H a = some o := by
  have z := (G.slot k r h).1
  cases e : r.e with
  | no =>
    have z' : r.F = [] := by rw [e] at z; exact z
    rw [z'] at ha; cases ha
  | ow n u => rw [e] at z; obtain ⟨v, _, q⟩ := z; exact q.there a ha
  | io n u => rw [e] at z; obtain ⟨v, _, q⟩ := z; exact q.there a ha
  | ro u =>
    have z' : r.F = [] := by rw [e] at z; exact z.1
    rw [z'] at ha; cases ha
  | al j i u =>
    have z' : r.F = [] := by rw [e] at z; exact z.1
    rw [z'] at ha; cases ha
theorem Good.own_nt (G : Good K f S rs H) {k : Nat} {r : Root} (h : rs[k]? = some r) {a : Addr} (ha : a ∈ r.F) {o : HO} (e : H a = some o) : (∀ xs, o ≠ .tup xs) ∧ ∀ ob u, o ≠ .frz ob u := by
  have z := (G.slot k r h).1
  cases q : r.e with
  | no =>
    have z' : r.F = [] := by rw [q] at z; exact z
    rw [z'] at ha; cases ha
  | ow n u => rw [q] at z; obtain ⟨v, _, x⟩ := z; exact x.nt a ha o e
  | io n u => rw [q] at z; obtain ⟨v, _, x⟩ := z; exact x.nt a ha o e
  | ro u =>
    have z' : r.F = [] := by rw [q] at z; exact z.1
    rw [z'] at ha; cases ha
  | al j i u =>
    have z' : r.F = [] := by rw [q] at z; exact z.1
    rw [z'] at ha; cases ha
theorem Good.none_src (G : Good K f S rs H) {a : Addr} (h : H a = none) : f.H0 a = none ∨ a ∈ f.W := by
  by_cases w : a ∈ f.W
  · exact .inr w
  · cases q : f.H0 a with
    | none => exact .inl rfl
    | some o => rw [G.fr a o q w] at h; cases h
/-- what came new may be shared -/
def grown (S : Addr → Prop) (H H' : Hp) : Addr → Prop := fun a => fresh S H a ∧ H' a ≠ none
theorem StaW.grow (s : StaW K f τ ρ σ H S rs) (k : Same H H') : StaW K f τ ρ σ H' (grown S H H') rs where
  e := s.e
  o := s.o
  good := {
    slot := fun m r e => by
      obtain ⟨a, b, c⟩ := s.good.slot m r e
      refine ⟨a.keep (fun x z => ⟨.inl z, fun y => s.good.trk x z (k.free y)⟩) (.same k) (fun _ _ => .same k), b, fun x hx => ⟨fun z => ?_, (c x hx).2⟩⟩
      rcases z.1 with z | z
      · exact (c x hx).1 z
      · obtain ⟨vs, e2⟩ := s.good.own_there e hx
        rw [z] at e2; cases e2
    dj := s.good.dj
    trk := fun a h => h.2
    fr := fun a o h1 h2 => k _ _ (s.good.fr a o h1 h2)
    src := fun a h => by
      rcases h.1 with z | z
      · exact s.good.src a z
      · exact .inr (s.good.none_src z) }
  al := fun k' j i t h => ((s.al k' j i t h).same k).mono fun x z => ⟨.inl z, fun y => s.good.trk x z (k.free y)⟩
  io := s.io
  tm := s.tm
theorem shr_grown {t : T} {v : V} (h : Shr K H' (fresh S H) t v) : Shr K H' (grown S H H') t v := h.trk
theorem tm_app (h : ∀ r ∈ τ, ∃ n t, r.e = .ow n t) {r : Root} (hr : ∃ n t, r.e = .ow n t) : ∀ q ∈ τ ++ [r], ∃ n t, q.e = .ow n t := fun q hq => by
  rcases List.mem_append.mp hq with hq | hq
  · exact h q hq
  · rw [List.mem_singleton.mp hq]; exact hr
/-- a shared value held -/
theorem StaW.pushS (s : StaW K f τ ρ σ H S rs) {t : T} {v : V} (h : Shr K H S t v) : StaW K f (τ ++ [tmp 0 t v []]) ρ σ H S rs where
  e := s.e
  o := s.o
  good := by
    rw [← List.append_assoc]
    exact {
      slot := fun m r e => by
        rcases app_old e with ⟨_, rfl⟩ | ⟨_, e⟩
        · exact ⟨⟨v, rfl, h⟩, List.nodup_nil, fun a z => nomatch z⟩
        · exact s.good.slot m r e
      dj := fun m l r q e1 e2 ne a ha hb => by
        rcases app_old e1 with ⟨_, rfl⟩ | ⟨_, e1⟩
        · cases ha
        · rcases app_old e2 with ⟨_, rfl⟩ | ⟨_, e2⟩
          · cases hb
          · exact s.good.dj m l r q e1 e2 ne a ha hb
      trk := s.good.trk
      fr := s.good.fr
      src := s.good.src }
  al := s.al
  io := s.io
  tm := tm_app s.tm ⟨_, _, rfl⟩
/-- a new owned list held -/
theorem StaW.pushNew (s : StaW K f τ ρ σ H S rs) {p : Addr} (hp : H p = none) {n : Nat} {kd : NK} {o : HO} {ts : List T} {vs : List V} (hk : kd.is o vs) (h : Owns K (upd H p o) S n ts vs []) : StaW K f (τ ++ [tmp (n + 1) (.nd kd ts) (.ref p) [p]]) ρ σ (upd H p o) S rs := by
  have k : Same H (upd H p o) := fun b o e => by rw [upd_ne (ne_of_none e hp)]; exact e
  have s' := s.same k
  refine ⟨s.e, s.o, ?_, s'.al, s.io, tm_app s.tm ⟨_, _, rfl⟩⟩
  rw [← List.append_assoc]
  have nw : ∀ {m : Nat} {r : Root}, (rs ++ τ)[m]? = some r → p ∉ r.F := fun e hm => by
    obtain ⟨vs, q⟩ := s.good.own_there e hm
    rw [hp] at q; cases q
  exact {
    slot := fun m r e => by
      rcases app_old e with ⟨_, rfl⟩ | ⟨_, e⟩
      · refine ⟨⟨.ref p, rfl, .nd upd_same hk h⟩, by simp, fun a z => ?_⟩
        have e : a = p := by simpa using z
        subst e
        exact ⟨fun z => s.good.trk a z hp, s.good.none_src hp⟩
      · exact s'.good.slot m r e
    dj := fun m l r q e1 e2 ne a ha hb => by
      rcases app_old e1 with ⟨d1, rfl⟩ | ⟨_, g1⟩
      · have e : a = p := by simpa using ha
        rcases app_old e2 with ⟨d2, rfl⟩ | ⟨_, g2⟩
        · exact ne (d1.trans d2.symm)
        · exact nw g2 (e ▸ hb)
      · rcases app_old e2 with ⟨_, rfl⟩ | ⟨_, g2⟩
        · have e : a = p := by simpa using hb
          exact nw g1 (e ▸ ha)
        · exact s.good.dj m l r q g1 g2 ne a ha hb
    trk := s'.good.trk
    fr := s'.good.fr
    src := s.good.src }
theorem StaW.pop (s : StaW K f (τ ++ τ') ρ σ H S rs) : StaW K f τ ρ σ H S rs where
  e := s.e
  o := s.o
  good := s.good.pick (fun m => m) (fun m r e => .inr (by rw [← List.append_assoc]; exact getElem?_app e)) fun _ _ _ _ _ _ _ _ z => z
  al := s.al
  io := s.io
  tm := fun r h => s.tm r (List.mem_append_left _ h)
theorem Sta.pop (s : Sta K f (τ ++ τ') ρ σ H) : Sta K f τ ρ σ H := let ⟨S, rs, s⟩ := s; ⟨S, rs, s.pop⟩

/-! ### slots stored -/
theorem noAl_cases (i : Nat) (e : Ent) : noAl i e = e ∨ (∃ k t, e = .al i k t ∧ noAl i e = .no) := by
  cases e with
  | al j k t =>
    by_cases h : j = i
    · subst h; exact .inr ⟨k, t, rfl, by simp [noAl]⟩
    · exact .inl (by simp [noAl, h])
  | no => exact .inl rfl
  | ow _ _ => exact .inl rfl
  | io _ _ => exact .inl rfl
  | ro _ => exact .inl rfl
theorem noAl_own (i : Nat) (e : Ent) : (noAl i e).own = e.own := by
  rcases noAl_cases i e with h | ⟨k, t, h, h2⟩
  · rw [h]
  · rw [h2, h]; rfl
theorem noAl_al {i j k : Nat} {e : Ent} {t : T} (h : noAl i e = .al j k t) : e = .al j k t ∧ j ≠ i := by
  cases e with
  | al j' k' t' =>
    by_cases hj : j' = i
    · simp [noAl, hj] at h
    · simp [noAl, hj] at h
      obtain ⟨rfl, rfl, rfl⟩ := h
      exact ⟨rfl, hj⟩
  | no => cases h
  | ow _ _ => cases h
  | io _ _ => cases h
  | ro _ => cases h
theorem noAl_io {i : Nat} {e : Ent} {n : Nat} {t : T} (h : noAl i e = .io n t) : e = .io n t := by
  rcases noAl_cases i e with q | ⟨k, u, _, q⟩
  · rw [← q]; exact h
  · rw [q] at h; cases h
theorem setE_get {ρ : List Ent} {i k : Nat} {x e : Ent} (h : (setE ρ i e)[k]? = some x) (ne : k ≠ i) : ∃ y, ρ[k]? = some y ∧ x = noAl i y := by
  unfold setE at h
  rw [List.getElem?_set_ne (Ne.symm ne)] at h
  unfold killA at h
  rw [List.getElem?_map] at h
  cases q : ρ[k]? with
  | none => rw [q] at h; cases h
  | some y => rw [q] at h; exact ⟨y, rfl, (Option.some.inj h).symm⟩
theorem setE_same {ρ : List Ent} {i : Nat} {x e : Ent} (h : (setE ρ i e)[i]? = some x) : x = e := by
  unfold setE at h
  have hl := (List.getElem?_eq_some_iff.mp h).1
  rw [List.length_set] at hl
  rw [List.getElem?_set_self hl] at h
  exact (Option.some.inj h).symm
theorem setE_other {ρ : List Ent} {i j : Nat} {e : Ent} (ne : j ≠ i) : (setE ρ i e)[j]?.bind Ent.own = ρ[j]?.bind Ent.own := by
  unfold setE killA
  rw [List.getElem?_set_ne (Ne.symm ne), List.getElem?_map]
  cases q : ρ[j]? with
  | none => rfl
  | some y => exact noAl_own i y
def Root.noAl (i : Nat) (r : Root) : Root := ⟨TL.noAl i r.e, r.o, r.F⟩
theorem StaW.alF (s : StaW K f τ ρ σ H S rs) {m : Nat} {r : Root} (h : (rs ++ τ)[m]? = some r) {j k : Nat} {t : T} (e : r.e = .al j k t) : r.F = [] := by
  have z := (s.good.slot m r h).1
  rw [e] at z
  exact z.1
/-- the last temporary goes into slot i -/
theorem StaW.setV {i n : Nat} {t : T} {v : V} {F : List Addr} (s : StaW K f (τ ++ [tmp n t v F]) ρ σ H S rs) (hi : i < ρ.length) : StaW K f τ (setE ρ i (.ow n t)) (σ.set i (some v)) H S ((rs.map (Root.noAl i)).set i (tmp n t v F)) where
  e := by
    rw [List.map_set, List.map_map]
    unfold setE killA
    rw [← s.e, List.map_map]
    rfl
  o := by
    rw [List.map_set, List.map_map]
    show (List.map (fun r => r.o) rs).set i (some v) = σ.set i (some v)
    rw [s.o]
  good := by
    have hl := s.len
    have len : ((rs.map (Root.noAl i)).set i (tmp n t v F)).length = rs.length := by rw [List.length_set, List.length_map]
    refine s.good.pick (fun m => if m = i then rs.length + τ.length else m) (fun m r e => ?_) fun a b ra rb ha hb _ _ z => ?_
    · by_cases hm : m = i
      · subst hm
        rw [if_pos rfl]
        right
        rw [List.getElem?_append_left (by omega), List.getElem?_set_self (by rw [List.length_map]; omega)] at e
        rw [← Option.some.inj e, ← List.append_assoc]
        have := getElem?_last (l := rs ++ τ) (x := tmp n t v F)
        rw [List.length_append] at this
        exact this
      · rw [if_neg hm]
        by_cases hlt : m < rs.length
        · rw [List.getElem?_append_left (by omega), List.getElem?_set_ne (Ne.symm hm), List.getElem?_map] at e
          cases q : rs[m]? with
          | none => rw [q] at e; cases e
          | some r0 =>
            rw [q] at e
            have e := (Option.some.inj e).symm
            rcases noAl_cases i r0.e with h | ⟨k, u, h, h2⟩
            · right
              rw [e]
              unfold Root.noAl
              rw [h]
              exact getElem?_app q
            · left
              rw [e]
              exact ⟨h2, show r0.F = [] from s.alF (getElem?_app q) h⟩
        · rw [List.getElem?_append_right (by omega), len] at e
          right
          rw [List.getElem?_append_right (by omega)]
          exact getElem?_app e
    · have ha := (List.getElem?_eq_some_iff.mp ha).1
      have hb := (List.getElem?_eq_some_iff.mp hb).1
      rw [List.length_append, len] at ha hb
      by_cases h1 : a = i
      · by_cases h2 : b = i
        · omega
        · rw [if_pos h1, if_neg h2] at z; omega
      · by_cases h2 : b = i
        · rw [if_neg h1, if_pos h2] at z; omega
        · rw [if_neg h1, if_neg h2] at z; exact z
  al := fun k j l u h => by
    by_cases hk : k = i
    · subst hk
      have := setE_same h
      cases this
    · obtain ⟨y, hy, e⟩ := setE_get h hk
      obtain ⟨e2, nj⟩ := noAl_al e.symm
      subst e2
      obtain ⟨r, n', U, v0, v1, Fi, a1, a2, a3, a4, a5, a6, a7⟩ := (s.al k j l u hy).ex
      refine ⟨⟨r.noAl i, n', U, v0, v1, Fi, ?_, ?_, a3, ?_, a5, a6, a7⟩⟩
      · rw [List.getElem?_set_ne (Ne.symm nj), List.getElem?_map, a1]; rfl
      · exact (noAl_own i r.e).trans a2
      · rw [List.getElem?_set_ne (Ne.symm hk)]; exact a4
  io := fun k n' u h => by
    by_cases hk : k = i
    · subst hk
      have := setE_same h
      cases this
    · obtain ⟨y, hy, e⟩ := setE_get h hk
      have e2 := noAl_io e.symm
      subst e2
      rw [List.getElem?_set_ne (Ne.symm hk)]
      exact s.io k n' u hy
  tm := fun r h => s.tm r (List.mem_append_left _ h)
theorem Sta.setV {i n : Nat} {t : T} {v : V} {F : List Addr} (s : Sta K f (τ ++ [tmp n t v F]) ρ σ H) (hi : i < ρ.length) : Sta K f τ (setE ρ i (.ow n t)) (σ.set i (some v)) H := let ⟨S, rs, s⟩ := s; ⟨S, _, s.setV hi⟩
end
end TL
set_option Elab.async false
set_option linter.all false
set_option maxRecDepth 100000
namespace TL
open PySem PySem.Spec PyProof.Rows L2

def T.put (x : T) : List Nat → T → T
  | [], _ => x
  | i :: p, .nd k ts => .nd k (ts.set i (T.put x p (ts.getD i .non)))
  | i :: p, .tup ts => .tup (ts.set i (T.put x p (ts.getD i .non)))
  | _ :: _, t => t
theorem set_self {α : Type} : ∀ {l : List α} {i : Nat} {x : α}, l[i]? = some x → l.set i x = l
  | [], _, _, h => by simp at h
  | a :: l, 0, x, h => by simp at h; subst h; rfl
  | a :: l, i + 1, x, h => by
    show a :: l.set i x = a :: l
    rw [set_self (by simpa using h)]
section
variable {K : PySem.W.Frag} {f : Fm} {S S' : Addr → Prop} {H H' : Hp} {τ τ' rs rs' : List Root} {ρ ρ' : List Ent} {σ : St}
theorem Owns.split : ∀ {ts : List T} {vs : List V} {F : List Addr} {n i : Nat} {t : T} {v : V}, Owns K H S n ts vs F → ts[i]? = some t → vs[i]? = some v →
    ∃ F1 Fi F2, F = F1 ++ Fi ++ F2 ∧ Own K H S n t v Fi ∧ ∀ (H' : Hp) (S' : Addr → Prop) (t' : T) (v' : V) (Fi' : List Addr), (∀ a, S a → S' a) → Kp H H' S F1 → Kp H H' S F2 → Own K H' S' n t' v' Fi' → Owns K H' S' n (ts.set i t') (vs.set i v') (F1 ++ Fi' ++ F2)
  | [], _, _, _, _, _, _, _, h, _ => by simp at h
  | u :: ts, _, _, n, 0, t, v, h, e1, e2 => by
    cases h with
    | @cons n t0 ts v0 vs F G a r =>
      simp at e1 e2
      subst e1; subst e2
      refine ⟨[], F, G, by simp, a, fun H' S' t' v' Fi' hS _ k2 a' => ?_⟩
      exact Owns.cons a' (r.keep hS k2)
  | u :: ts, _, _, n, i + 1, t, v, h, e1, e2 => by
    cases h with
    | @cons n t0 ts v0 vs F G a r =>
      obtain ⟨F1, Fi, F2, rfl, o, k⟩ := Owns.split (i := i) r (by simpa using e1) (by simpa using e2)
      refine ⟨F ++ F1, Fi, F2, by simp, o, fun H' S' t' v' Fi' hS k1 k2 a' => ?_⟩
      have z := Owns.cons (a.keep hS (k1.sub fun b m => List.mem_append_left _ m)) (k H' S' t' v' Fi' hS (k1.sub fun b m => List.mem_append_right _ m) k2 a')
      have e : F ++ (F1 ++ Fi' ++ F2) = F ++ F1 ++ Fi' ++ F2 := by simp
      rw [← e]
      exact z
theorem flat_no_way {t u : T} {v x : V} {p : List Nat} {kd : NK} {ts : List T} (w : Way H t v p u x) (hu : u = .nd kd ts) (h : t.flat = true) : False := by
  induction w with
  | nil => subst hu; rw [T.flat, T.flatAt] at h; cases h
  | nd _ _ _ _ _ _ => rw [T.flat, T.flatAt] at h; cases h
  | tup _ _ h3 _ ih =>
    refine ih hu ?_
    rw [T.flat, T.flatAt, flatAts_iff] at h
    exact h _ (List.mem_of_getElem? h3)
theorem flat_way {t u : T} {v x : V} {p : List Nat} (w : Way H t v p u x) (h : t.flat = true) : u.flat = true := by
  induction w with
  | nil => exact h
  | nd _ _ _ _ _ _ => rw [T.flat, T.flatAt] at h; cases h
  | tup _ _ h3 _ ih =>
    refine ih ?_
    rw [T.flat, T.flatAt, flatAts_iff] at h
    exact h _ (List.mem_of_getElem? h3)
/-- a list that is owned, by its way: what it holds, and the whole with it changed -/
theorem Own.way {t0 u : T} {v0 x : V} {p : List Nat} (w : Way H t0 v0 p u x) : ∀ {kd : NK} {ts : List T} {a : Addr} {n : Nat} {F : List Addr}, u = .nd kd ts → x = .ref a → Own K H S n t0 v0 F → p.length < n → F.Nodup →
    ∃ o vs F1 Fs F2, F = F1 ++ a :: Fs ++ F2 ∧ H a = some o ∧ kd.is o vs ∧ Owns K H S (n - p.length - 1) ts vs Fs ∧ (p ≠ [] → v0 ≠ .ref a) ∧
      ∀ (H' : Hp) (S' : Addr → Prop) (kd' : NK) (o' : HO) (vs' : List V) (ts' : List T) (Fs' : List Addr), (∀ b, S b → S' b) → (∀ b xs, H b = some (.tup xs) → H' b = some (.tup xs)) → (∀ b o u, H b = some (.frz o u) → H' b = some (.frz o u)) →
        (∀ b ob, b ≠ a → (S b ∨ b ∈ F) → H b = some ob → H' b = some ob) → ¬ S a → H' a = some o' → kd'.is o' vs' → Owns K H' S' (n - p.length - 1) ts' vs' Fs' → Own K H' S' n (T.put (.nd kd' ts') p t0) v0 (F1 ++ a :: Fs' ++ F2) := by
  induction w with
  | nil =>
    rintro kd ts a n F rfl rfl h hp nd
    cases h with
    | snd _ _ => exact absurd hp (by simp)
    | @nd n _ _ o vs _ F q ki r =>
      refine ⟨o, vs, [], F, [], by simp, q, ki, r, fun z => absurd rfl z, fun H' S' kd' o' vs' ts' Fs' hS h1 h2 h3 _ h4 h5 r' => ?_⟩
      have z := Own.nd h4 h5 r'
      have e : ([] : List Addr) ++ a :: Fs' ++ [] = a :: Fs' := by simp
      rw [e]
      exact z
  | @nd b k0 o0 vs0 ts0 i t1 t2 v1 v2 p g1 g0 g2 g3 w ih =>
    intro kd ts a n F hu hx h hp nd
    cases h with
    | snd _ _ => exact absurd hp (by simp)
    | @nd n _ _ o2 vs2 _ F q ki r =>
      rw [g1] at q
      have e := Option.some.inj q
      subst e
      have e := g0.inj ki
      subst e
      obtain ⟨G1, Fi, G2, rfl, o, k⟩ := Owns.split r g3 g2
      obtain ⟨nb, nd'⟩ := List.nodup_cons.mp nd
      have ndi : Fi.Nodup := (List.nodup_append.mp (List.nodup_append.mp nd').1).2.1
      obtain ⟨oa, vs, F1, Fs, F2, rfl, q2, ka, r2, _, k2⟩ := ih hu hx o (by simp at hp; omega) ndi
      have en : n + 1 - (i :: p).length - 1 = n - p.length - 1 := by rw [List.length_cons]; omega
      have ne : b ≠ a := fun z => by
        subst z
        exact nb (by simp)
      refine ⟨oa, vs, b :: G1 ++ F1, Fs, F2 ++ G2, by simp, q2, ka, by rw [en]; exact r2, fun _ z => ne (V.ref.inj z), fun H' S' kd' o' vs' ts' Fs' hS h1 h2 h3 hSa h4 h5 r' => ?_⟩
      rw [en] at r'
      obtain ⟨n1, n2, n3⟩ := List.nodup_append.mp nd'
      obtain ⟨n4, n5, n6⟩ := List.nodup_append.mp n1
      have kp1 : Kp H H' S G1 := ⟨h1, h2, fun c xs hc e => h3 c xs (fun z => by
        subst z
        rcases hc with hc | hc
        · exact hSa hc
        · exact n6 c hc c (by simp) rfl) (hc.imp_right fun m => by simp [m]) e⟩
      have kp2 : Kp H H' S G2 := ⟨h1, h2, fun c xs hc e => h3 c xs (fun z => by
        subst z
        rcases hc with hc | hc
        · exact hSa hc
        · exact n3 c (by simp) c hc rfl) (hc.imp_right fun m => by simp [m]) e⟩
      have z := k2 H' S' kd' o' vs' ts' Fs' hS h1 h2 (fun c xs hc hd e => h3 c xs hc (hd.imp_right fun m => by
        simp at m ⊢
        rcases m with m | m | m | m <;> simp [m]) e) hSa h4 h5 r'
      have z2 := k H' S' _ _ _ hS kp1 kp2 z
      rw [set_self g2] at z2
      have z3 := Own.nd (h3 b _ ne (.inr List.mem_cons_self) g1) g0 z2
      have e1 : ts0.getD i T.non = t1 := by rw [List.getD_eq_getElem?_getD, g3]; rfl
      rw [T.put, e1]
      have e2 : b :: (G1 ++ (F1 ++ a :: Fs' ++ F2) ++ G2) = b :: G1 ++ F1 ++ a :: Fs' ++ (F2 ++ G2) := by simp
      rw [← e2]
      exact z3
  | @tup b vs0 ts0 i t1 t2 v1 v2 p g1 g2 g3 w ih =>
    intro kd ts a n F hu hx h hp nd
    cases h with
    | tupf _ f _ => exact (flat_no_way w hu (flatAts_iff.mp f _ (List.mem_of_getElem? g3))).elim
    | tup0 _ _ => exact absurd hp (by simp)
    | @tup n _ vs2 _ F q r =>
      rw [g1] at q
      have e : vs0 = vs2 := HO.tup.inj (Option.some.inj q)
      subst e
      obtain ⟨G1, Fi, G2, rfl, o, k⟩ := Owns.split r g3 g2
      have ndi : Fi.Nodup := (List.nodup_append.mp (List.nodup_append.mp nd).1).2.1
      obtain ⟨oa, vs, F1, Fs, F2, rfl, q2, ka, r2, _, k2⟩ := ih hu hx o (by simp at hp; omega) ndi
      have en : n + 1 - (i :: p).length - 1 = n - p.length - 1 := by rw [List.length_cons]; omega
      have ne : b ≠ a := fun z => by
        subst z
        rw [g1] at q2
        exact ka.ntup (Option.some.inj q2).symm
      refine ⟨oa, vs, G1 ++ F1, Fs, F2 ++ G2, by simp, q2, ka, by rw [en]; exact r2, fun _ z => ne (V.ref.inj z), fun H' S' kd' o' vs' ts' Fs' hS h1 h2 h3 hSa h4 h5 r' => ?_⟩
      rw [en] at r'
      obtain ⟨n1, n2, n3⟩ := List.nodup_append.mp nd
      obtain ⟨n4, n5, n6⟩ := List.nodup_append.mp n1
      have kp1 : Kp H H' S G1 := ⟨h1, h2, fun c xs hc e => h3 c xs (fun z => by
        subst z
        rcases hc with hc | hc
        · exact hSa hc
        · exact n6 c hc c (by simp) rfl) (hc.imp_right fun m => by simp [m]) e⟩
      have kp2 : Kp H H' S G2 := ⟨h1, h2, fun c xs hc e => h3 c xs (fun z => by
        subst z
        rcases hc with hc | hc
        · exact hSa hc
        · exact n3 c (by simp) c hc rfl) (hc.imp_right fun m => by simp [m]) e⟩
      have z := k2 H' S' kd' o' vs' ts' Fs' hS h1 h2 (fun c xs hc hd e => h3 c xs hc (hd.imp_right fun m => by
        simp at m ⊢
        rcases m with m | m | m | m <;> simp [m]) e) hSa h4 h5 r'
      have z2 := k H' S' _ _ _ hS kp1 kp2 z
      rw [set_self g2] at z2
      have z3 := Own.tup (h1 b _ g1) z2
      have e1 : ts0.getD i T.non = t1 := by rw [List.getD_eq_getElem?_getD, g3]; rfl
      rw [T.put, e1]
      have e2 : (G1 ++ (F1 ++ a :: Fs' ++ F2) ++ G2) = G1 ++ F1 ++ a :: Fs' ++ (F2 ++ G2) := by simp
      rw [← e2]
      exact z3

/-- the part at the end of a way is owned as deep as is left -/
theorem Own.sub {t0 u : T} {v0 x : V} {p : List Nat} (w : Way H t0 v0 p u x) : ∀ {n : Nat} {F : List Addr}, Own K H S n t0 v0 F → p.length ≤ n → (t0.flat = false ∨ p = []) → u.flat = false → ∃ Fi, Own K H S (n - p.length) u x Fi ∧ ∀ b ∈ Fi, b ∈ F := by
  induction w with
  | nil => exact fun {n F} h _ _ _ => ⟨F, h, fun _ z => z⟩
  | @nd b k0 o0 vs0 ts0 i t1 t2 v1 v2 p g1 g0 g2 g3 w ih =>
    intro n F h hp _ hu
    cases h with
    | snd _ _ => exact absurd hp (by simp)
    | @nd n _ _ o2 vs2 _ F q ki r =>
      rw [g1] at q
      have e := Option.some.inj q
      subst e
      have e := g0.inj ki
      subst e
      obtain ⟨G1, Fi, G2, rfl, o, _⟩ := Owns.split r g3 g2
      have f1 : t1.flat = false ∨ p = [] := by
        cases p with
        | nil => exact .inr rfl
        | cons _ _ =>
          left
          cases hf : t1.flat with
          | false => rfl
          | true =>
            exfalso
            have := (flat_way w hf)
            rw [this] at hu; cases hu
      obtain ⟨Fj, o2, s2⟩ := ih o (by simp at hp; omega) f1 hu
      have en : n + 1 - (i :: p).length = n - p.length := by rw [List.length_cons]; omega
      exact ⟨Fj, by rw [en]; exact o2, fun c hc => List.mem_cons_of_mem _ (by simp [s2 c hc])⟩
  | @tup b vs0 ts0 i t1 t2 v1 v2 p g1 g2 g3 w ih =>
    intro n F h hp hf0 hu
    cases h with
    | tupf _ f _ =>
      rcases hf0 with hf0 | hf0
      · rw [T.flat, T.flatAt] at hf0; rw [T.flats] at f; simp at hf0; rw [hf0] at f; cases f
      · cases hf0
    | tup0 _ _ => exact absurd hp (by simp)
    | @tup n _ vs2 _ F q r =>
      rw [g1] at q
      have e : vs0 = vs2 := HO.tup.inj (Option.some.inj q)
      subst e
      obtain ⟨G1, Fi, G2, rfl, o, _⟩ := Owns.split r g3 g2
      have f1 : t1.flat = false ∨ p = [] := by
        cases p with
        | nil => exact .inr rfl
        | cons _ _ =>
          left
          cases hf : t1.flat with
          | false => rfl
          | true =>
            exfalso
            have := (flat_way w hf)
            rw [this] at hu; cases hu
      obtain ⟨Fj, o2, s2⟩ := ih o (by simp at hp; omega) f1 hu
      have en : n + 1 - (i :: p).length = n - p.length := by rw [List.length_cons]; omega
      exact ⟨Fj, by rw [en]; exact o2, fun c hc => by simp [s2 c hc]⟩

/-! ### slots forgotten -/
theorem StaW.wk (s : StaW K f τ ρ σ H S rs) (h : Ent → Ent) (h1 : ∀ e, h e = e ∨ h e = .no) (h2 : ∀ e, e.own ≠ none → h e = e) : StaW K f τ (ρ.map h) σ H S (rs.map fun r => ⟨h r.e, r.o, if (h r.e).tr.isSome then r.F else []⟩) where
  e := by rw [← s.e, List.map_map, List.map_map]; rfl
  o := by rw [← s.o, List.map_map]; rfl
  good := by
    have len : (rs.map fun r => (⟨h r.e, r.o, if (h r.e).tr.isSome then r.F else []⟩ : Root)).length = rs.length := by rw [List.length_map]
    refine s.good.pick (fun m => m) (fun m r e => ?_) fun _ _ _ _ _ _ _ _ z => z
    by_cases hlt : m < rs.length
    · rw [List.getElem?_append_left (by omega), List.getElem?_map] at e
      cases q : rs[m]? with
      | none => rw [q] at e; cases e
      | some r0 =>
        rw [q] at e
        have e : r = ⟨h r0.e, r0.o, if (h r0.e).tr.isSome then r0.F else []⟩ := (Option.some.inj e).symm
        rcases h1 r0.e with z | z
        · by_cases ht : r0.e.tr.isSome = true
          · right
            rw [e, z, if_pos ht]
            exact getElem?_app q
          · have z0 : r0.e = .no := by
              cases er : r0.e <;> first | rfl | (rw [er] at ht; simp [Ent.tr] at ht)
            left
            rw [e, z, z0]
            exact ⟨rfl, rfl⟩
        · left
          rw [e, z]
          exact ⟨rfl, rfl⟩
    · rw [List.getElem?_append_right (by omega), len] at e
      right
      rw [List.getElem?_append_right (by omega)]
      exact e
  al := fun k j i t hh => by
    rw [List.getElem?_map] at hh
    cases q : ρ[k]? with
    | none => rw [q] at hh; cases hh
    | some e =>
      rw [q] at hh
      have hh := Option.some.inj hh
      rcases h1 e with z | z
      · rw [z] at hh
        subst hh
        obtain ⟨r, n, U, v0, v, Fi, a1, a2, a3, a4, a5, a6, a7⟩ := (s.al k j i t q).ex
        have er : h r.e = r.e := h2 r.e (by rw [a2]; intro z; cases z)
        refine ⟨⟨⟨h r.e, r.o, if (h r.e).tr.isSome then r.F else []⟩, n, U, v0, v, Fi, by rw [List.getElem?_map, a1]; rfl, ?_, a3, a4, a5, a6, ?_⟩⟩
        · show (h r.e).own = _
          rw [er]; exact a2
        · show ∀ b ∈ Fi, b ∈ (if (h r.e).tr.isSome then r.F else [])
          have et : (h r.e).tr.isSome = true := by
            rw [er]
            cases e2 : r.e <;> rw [e2] at a2 <;> first | rfl | cases a2
          rw [if_pos et]
          exact a7
      · rw [z] at hh; cases hh
  io := fun i n t hh => by
    rw [List.getElem?_map] at hh
    cases q : ρ[i]? with
    | none => rw [q] at hh; cases hh
    | some e =>
      rw [q] at hh
      have hh := Option.some.inj hh
      rcases h1 e with z | z
      · rw [z] at hh
        subst hh
        exact s.io i n t q
      · rw [z] at hh; cases hh
  tm := s.tm
theorem noRo_cases (js : List Nat) (e : Ent) : noRo js e = e ∨ noRo js e = .no := by
  cases e with
  | al j i t =>
    by_cases h : j ∈ js
    · exact .inr (by simp [noRo, h])
    · exact .inl (by simp [noRo, h])
  | ro t => exact .inr rfl
  | no => exact .inl rfl
  | ow _ _ => exact .inl rfl
  | io _ _ => exact .inl rfl
theorem noRo_own (js : List Nat) (e : Ent) (h : e.own ≠ none) : noRo js e = e := by cases e <;> first | rfl | exact absurd rfl h
theorem Sta.killJ (js : List Nat) (s : Sta K f τ ρ σ H) : Sta K f τ (TL.killJ js ρ) σ H := let ⟨S, rs, s⟩ := s; ⟨S, _, s.wk (noRo js) (noRo_cases js) (noRo_own js)⟩
theorem noRA_cases (e : Ent) : noRA e = e ∨ noRA e = .no := by cases e <;> first | exact .inl rfl | exact .inr rfl
theorem noRA_own (e : Ent) (h : e.own ≠ none) : noRA e = e := by cases e <;> first | rfl | exact absurd rfl h
end
end TL
set_option Elab.async false
set_option linter.all false
set_option maxRecDepth 100000
namespace TL
open PySem PySem.Spec PyProof.Rows L2

/-- kind m serves where kind k is wanted -/
def fit (k m : Nat) (t : T) : Prop := k ≤ m ∨ t.flat = true
section
variable {K : PySem.W.Frag} {f : Fm} {S S' : Addr → Prop} {H H' : Hp} {τ τ' rs rs' : List Root} {ρ ρ' : List Ent} {σ : St}
theorem Own.fit {k m : Nat} {t : T} {v : V} {F : List Addr} (h : Own K H S m t v F) (hk : fit k m t) : ∃ F' : List Addr, F'.Sublist F ∧ ∀ S' : Addr → Prop, (∀ a, S a → S' a) → (∀ a ∈ F, a ∉ F' → S' a) → F.Nodup → Own K H S' k t v F' := by
  rcases hk with hk | hk
  · exact h.less hk
  · obtain ⟨e, q⟩ := h.flat0 hk
    exact ⟨[], List.nil_sublist _, fun S' _ _ _ => q k S'⟩
theorem put_own {e : Ent} {n : Nat} {U : T} (h : e.own = some (n, U)) (U' : T) : (e.put U').own = some (n, U') := by
  cases e <;> first | (cases h; rfl) | cases h
theorem put_io {e : Ent} {n n' : Nat} {U U' t : T} (h : e.own = some (n, U)) (q : e.put U' = .io n' t) : e = .io n U := by
  cases e <;> first | cases h | skip
  · cases q
  · rfl
theorem slot_put {e : Ent} {n : Nat} {U U' : T} {v : V} {F : List Addr} (h : e.own = some (n, U)) (o : Own K H S n U' v F) : SlotR K H S (e.put U') (some v) F := by
  cases e <;> first | (cases h; exact ⟨v, rfl, o⟩) | cases h
/-- an owned list changed; the value of the last temporary may have gone into it -/
theorem StaW.core {m j : Nat} {t2 : T} {v2 : V} {F2 : List Addr} (s : StaW K f (τ ++ [tmp m t2 v2 F2]) ρ σ H S rs) (hnr : ∀ e ∈ ρ, (∀ t, e ≠ .ro t) ∧ ∀ i t, e ≠ .al j i t)
    {n : Nat} {e : Ent} {U : T} {v0 : V} {p : List Nat} {kd : NK} {ts : List T} {a : Addr} (he : ρ[j]? = some e) (ho : e.own = some (n, U)) (hv : σ[j]? = some (some v0)) (w : Way H U v0 p (.nd kd ts) (.ref a)) (hp : p.length < n) (hf : TL.fit (n - p.length - 1) m t2) :
    ∃ (oa : HO) (vs : List V) (Fs F2' : List Addr) (S' : Addr → Prop), H a = some oa ∧ kd.is oa vs ∧ Owns K H S (n - p.length - 1) ts vs Fs ∧ (∀ b, S b → S' b) ∧ Own K H S' (n - p.length - 1) t2 v2 F2' ∧ a ∉ Fs ∧ a ∉ F2' ∧ ¬ S' a ∧ Fs.Nodup ∧ F2'.Nodup ∧ (∀ b ∈ Fs, b ∉ F2') ∧ (p ≠ [] → v0 ≠ .ref a) ∧
      ∀ (kd' : NK) (o' : HO) (vs' : List V) (ts' : List T) (Fs' : List Addr), kd'.is o' vs' → Owns K (upd H a o') S' (n - p.length - 1) ts' vs' Fs' → Fs'.Nodup → (∀ b ∈ Fs', b ∈ Fs ∨ b ∈ F2') →
        Sta K f τ (ρ.set j (e.put (T.put (.nd kd' ts') p U))) σ (upd H a o') := by
  obtain ⟨r, g1, g2, g3, g4⟩ := s.get he
  obtain ⟨q1, q2, q3⟩ := s.good.slot j r g1
  obtain ⟨v0', e1, own⟩ := q1.own (g2 ▸ ho)
  rw [hv] at g3
  have e0 : v0 = v0' := by
    rw [e1] at g3
    exact Option.some.inj (Option.some.inj g3)
  subst e0
  have jl : j < rs.length := (List.getElem?_eq_some_iff.mp g4).1
  obtain ⟨oa, vs, F1, Fs, F3, eF, hA, hK, r2, nv0, k2⟩ := own.way w rfl rfl hp q2
  have gt : (rs ++ (τ ++ [tmp m t2 v2 F2]))[(rs ++ τ).length]? = some (tmp m t2 v2 F2) := by
    rw [← List.append_assoc]; exact getElem?_last
  obtain ⟨p1, p2, p3⟩ := s.good.slot _ _ gt
  obtain ⟨v2', e2, own2⟩ := p1
  have e0 : v2 = v2' := Option.some.inj e2
  subst e0
  obtain ⟨F2', sub, k3⟩ := own2.fit hf
  have jt : j ≠ (rs ++ τ).length := by rw [List.length_append]; omega
  have d12 : ∀ b ∈ r.F, b ∉ F2 := fun b hb => s.good.dj _ _ _ _ g1 gt jt b hb
  have aF : a ∈ r.F := by rw [eF]; simp
  have nd := q2
  rw [eF] at nd
  obtain ⟨n1, n2, n3⟩ := List.nodup_append.mp nd
  obtain ⟨n4, n5, n6⟩ := List.nodup_append.mp n1
  obtain ⟨n7, n8⟩ := List.nodup_cons.mp n5
  have sF : ∀ b ∈ Fs, b ∈ r.F := fun b hb => by rw [eF]; simp [hb]
  refine ⟨oa, vs, Fs, F2', fun b => S b ∨ (b ∈ F2 ∧ b ∉ F2'), hA, hK, r2, fun _ => .inl, k3 _ (fun _ => .inl) (fun b h1 h2 => .inr ⟨h1, h2⟩) p2, n7, fun z => d12 a aF (sub.subset z), fun z => ?_, n8, p2.sublist sub, fun b hb z => d12 b (sF b hb) (sub.subset z), nv0, ?_⟩
  · rcases z with z | ⟨z, _⟩
    · exact (q3 a aF).1 z
    · exact d12 a aF z
  intro kd' o' vs' ts' Fs' hK' hO hnd hsrc
  have keepL : ∀ b ob, b ≠ a → H b = some ob → upd H a o' b = some ob := fun b xs h1 h2 => by rw [upd_ne h1]; exact h2
  have keepT : ∀ b o, H b = some o → ((∃ xs, o = .tup xs) ∨ ∃ ob u, o = .frz ob u) → upd H a o' b = some o := fun b o h1 h2 => by
    refine (upd_ne (fun z => ?_)).trans h1
    rw [z, hA] at h1
    have e := Option.some.inj h1
    rcases h2 with ⟨xs, h2⟩ | ⟨ob, u, h2⟩
    · exact hK.ntup (e.trans h2)
    · exact hK.nfrz (e.trans h2)
  have nS' : ¬ (S a ∨ (a ∈ F2 ∧ a ∉ F2')) := fun z => by
    rcases z with z | ⟨z, _⟩
    · exact (q3 a aF).1 z
    · exact d12 a aF z
  have own' := k2 (upd H a o') (fun b => S b ∨ (b ∈ F2 ∧ b ∉ F2')) kd' o' vs' ts' Fs' (fun _ => .inl) (fun b xs h => keepT b _ h (.inl ⟨_, rfl⟩)) (fun b o u h => keepT b _ h (.inr ⟨_, _, rfl⟩)) (fun b xs h1 _ h3 => keepL b xs h1 h3) (q3 a aF).1 upd_same hK' hO
  have mem' : ∀ b ∈ F1 ++ a :: Fs' ++ F3, b ∈ r.F ∨ b ∈ F2' := fun b hb => by
    rcases List.mem_append.mp hb with hb | hb
    · rcases List.mem_append.mp hb with hb | hb
      · exact .inl (by rw [eF]; simp [hb])
      · rcases List.mem_cons.mp hb with rfl | hb
        · exact .inl aF
        · exact (hsrc b hb).imp_left (sF b)
    · exact .inl (by rw [eF]; simp [hb])
  have gO : ∀ m' r', m' ≠ j → (rs.set j ⟨e.put (T.put (.nd kd' ts') p U), some v0, F1 ++ a :: Fs' ++ F3⟩ ++ τ)[m']? = some r' → (rs ++ (τ ++ [tmp m t2 v2 F2]))[m']? = some r' ∧ m' ≠ (rs ++ τ).length := fun m' r' hm h => by
    have hl := (List.getElem?_eq_some_iff.mp h).1
    rw [List.length_append, List.length_set] at hl
    refine ⟨?_, by rw [List.length_append]; omega⟩
    by_cases hlt : m' < rs.length
    · rw [List.getElem?_append_left (by rw [List.length_set]; omega), List.getElem?_set_ne (Ne.symm hm)] at h
      exact getElem?_app h
    · rw [List.getElem?_append_right (by rw [List.length_set]; omega), List.length_set] at h
      rw [List.getElem?_append_right (by omega)]
      exact getElem?_app h
  refine ⟨fun b => S b ∨ (b ∈ F2 ∧ b ∉ F2'), rs.set j ⟨e.put (T.put (.nd kd' ts') p U), some v0, F1 ++ a :: Fs' ++ F3⟩, ⟨?_, ?_, ?_, ?_, ?_, fun r h => s.tm r (List.mem_append_left _ h)⟩⟩
  · rw [List.map_set, s.e]
  · rw [List.map_set, s.o]
    exact set_self hv
  · have hlen : (rs.set j (⟨e.put (T.put (.nd kd' ts') p U), some v0, F1 ++ a :: Fs' ++ F3⟩ : Root) ++ τ).length = (rs ++ τ).length := by rw [List.length_append, List.length_append, List.length_set]
    have old2 : ∀ m' q, m' ≠ j → m' < (rs ++ τ).length → (rs ++ (τ ++ [tmp m t2 v2 F2]))[m']? = some q → (∀ b ∈ r.F, b ∉ q.F) ∧ ∀ b ∈ F2, b ∉ q.F := fun m' q hm hl h => by
      have hm2 : m' ≠ (rs ++ τ).length := by omega
      exact ⟨fun b hb => s.good.dj _ _ _ _ g1 h (Ne.symm hm) b hb, fun b hb => s.good.dj _ _ _ _ gt h (Ne.symm hm2) b hb⟩
    refine s.good.repl (fun m => m) j (r' := ⟨e.put (T.put (.nd kd' ts') p U), some v0, F1 ++ a :: Fs' ++ F3⟩) ?_ (fun m' r' hm h => .inr (gO m' r' hm h).1) (fun _ _ _ _ _ _ _ _ _ _ z => z) (slot_put ho own') ?_ (fun b hb => ?_) (fun b hb m' q hm hl h => ?_) (fun _ => .inl) (fun m' q hm hl h b hb z => ?_) (fun m' q hm h _ => ?_) (fun b hb => ?_) (fun b o h1 h2 => ?_) fun b hb => ?_
    · exact getElem?_app (by rw [List.getElem?_set_self jl])
    · -- nodup
      have dF : ∀ b ∈ Fs', b ∈ r.F → b ∈ Fs := fun b hb hr => by
        rcases hsrc b hb with z | z
        · exact z
        · exact absurd (sub.subset z) (d12 b hr)
      refine List.nodup_append.mpr ⟨List.nodup_append.mpr ⟨n4, List.nodup_cons.mpr ⟨fun z => n7 (dF a z aF), hnd⟩, fun x hx y hy exy => ?_⟩, n2, fun x hx y hy exy => ?_⟩
      · subst exy
        rcases List.mem_cons.mp hy with rfl | hy
        · exact n6 x hx x (by simp) rfl
        · exact n6 x hx x (List.mem_cons_of_mem _ (dF x hy (by rw [eF]; simp [hx]))) rfl
      · subst exy
        rcases List.mem_append.mp hx with hx | hx
        · exact n3 x (by simp [hx]) x hy rfl
        · rcases List.mem_cons.mp hx with rfl | hx
          · exact n3 x (by simp) x hy rfl
          · exact n3 x (by simp [dF x hx (by rw [eF]; simp [hy])]) x hy rfl
    · rcases mem' b hb with z | z
      · refine ⟨fun y => ?_, (q3 b z).2⟩
        rcases y with y | ⟨y, _⟩
        · exact (q3 b z).1 y
        · exact d12 b z y
      · refine ⟨fun y => ?_, (p3 b (sub.subset z)).2⟩
        rcases y with y | ⟨_, y⟩
        · exact (p3 b (sub.subset z)).1 y
        · exact y z
    · have hl := (List.getElem?_eq_some_iff.mp hl).1
      rw [hlen] at hl
      rcases mem' b hb with z | z
      · exact (old2 m' q hm hl h).1 b z
      · exact (old2 m' q hm hl h).2 b (sub.subset z)
    · have hl := (List.getElem?_eq_some_iff.mp hl).1
      rw [hlen] at hl
      rcases z with z | ⟨z, _⟩
      · exact ((s.good.slot _ _ h).2.2 b hb).1 z
      · exact (old2 m' q hm hl h).2 b z hb
    · obtain ⟨h1, h2⟩ := gO m' q hm h
      have hl := (List.getElem?_eq_some_iff.mp h).1
      rw [hlen] at hl
      refine ⟨⟨fun b xs h => keepT b _ h (.inl ⟨_, rfl⟩), fun b o u h => keepT b _ h (.inr ⟨_, _, rfl⟩), fun b xs hb hx => keepL b xs (fun z => ?_) hx⟩, fun t1 t2 => ?_⟩
      · rcases hb with hb | hb
        · exact (q3 a aF).1 (z ▸ hb)
        · exact (old2 m' q hm hl h1).1 a aF (z ▸ hb)
      · exfalso
        by_cases hlt : m' < rs.length
        · rw [List.getElem?_append_left hlt] at h1
          have hm : q.e ∈ ρ := by rw [← s.e]; exact List.mem_map_of_mem (List.mem_of_getElem? h1)
          exact (hnr _ hm).1 t1 t2
        · rw [List.getElem?_append_right (by omega)] at h1
          obtain ⟨n', t', z⟩ := s.tm q (List.mem_of_getElem? h1)
          rw [z] at t2; cases t2
    · by_cases hb' : b = a
      · rw [hb', upd_same]; exact fun z => nomatch z
      · rw [upd_ne hb']
        rcases hb with hb | ⟨hb, _⟩
        · exact s.good.trk b hb
        · obtain ⟨_, z⟩ := own2.there b hb
          rw [z]; exact fun z => nomatch z
    · by_cases hb' : b = a
      · subst hb'
        rcases (q3 b aF).2 with z | z
        · rw [z] at h1; cases h1
        · exact absurd z h2
      · rw [upd_ne hb']; exact s.good.fr b o h1 h2
    · rcases hb with hb | ⟨hb, _⟩
      · exact s.good.src b hb
      · exact .inr (p3 b hb).2
  · intro k j' i t h
    by_cases hk : k = j
    · subst hk
      rw [List.getElem?_set_self (by rw [← s.len]; exact jl)] at h
      have z := put_own ho (T.put (.nd kd' ts') p U)
      rw [Option.some.inj h] at z
      cases z
    · rw [List.getElem?_set_ne (Ne.symm hk)] at h
      have nj : j' ≠ j := fun z => (hnr _ (List.mem_of_getElem? h)).2 i t (by rw [z])
      obtain ⟨r', n', U', w0, w1, Fi, a1, a2, a3, a4, a5, a6, a7⟩ := (s.al k j' i t h).ex
      have g5 : (rs ++ (τ ++ [tmp m t2 v2 F2]))[j']? = some r' := getElem?_app a1
      have na : ∀ b ∈ r'.F, b ≠ a := fun b hb z => s.good.dj _ _ _ _ g1 g5 (Ne.symm nj) a aF (z ▸ hb)
      refine ⟨⟨r', n', U', w0, w1, Fi, by rw [List.getElem?_set_ne (Ne.symm nj)]; exact a1, a2, a3, a4, ?_, ?_, a7⟩⟩
      · obtain ⟨w0', e3, own3⟩ := (s.good.slot _ _ g5).1.own a2
        rw [a3] at e3
        have e3 := Option.some.inj e3
        subst e3
        generalize r'.F = G at own3 na
        cases a5 with
        | nd b1 b0 b2 b3 b4 =>
          cases own3 with
          | nd _ _ _ => exact .nd (by rw [upd_ne (na _ List.mem_cons_self)]; exact b1) b0 b2 b3 (by cases b4; exact .nil)
        | tup b1 b2 b3 b4 => exact .tup (keepT _ _ b1 (.inl ⟨_, rfl⟩)) b2 b3 (by cases b4; exact .nil)
      · exact a6.keep (fun _ => .inl) ⟨fun b xs h => keepT b _ h (.inl ⟨_, rfl⟩), fun b o u h => keepT b _ h (.inr ⟨_, _, rfl⟩), fun b xs hb hx => keepL b xs (fun z => by
          rcases hb with hb | hb
          · exact (q3 a aF).1 (z ▸ hb)
          · exact na b (a7 b hb) z) hx⟩
  · intro i n' t h
    by_cases hk : i = j
    · subst hk
      rw [List.getElem?_set_self (by rw [← s.len]; exact jl)] at h
      have z := put_io ho (Option.some.inj h)
      rw [z] at he
      exact s.io i _ _ he
    · rw [List.getElem?_set_ne (Ne.symm hk)] at h
      exact s.io i n' t h
theorem killJ_nr (j : Nat) (ρ : List Ent) : ∀ e ∈ killJ [j] ρ, (∀ t, e ≠ .ro t) ∧ ∀ i t, e ≠ .al j i t := by
  intro e h
  unfold killJ at h
  obtain ⟨e0, _, rfl⟩ := List.mem_map.mp h
  cases e0 with
  | al j' i t =>
    by_cases hj : j' = j
    · subst hj; simp [noRo]
    · simp [noRo, hj]
  | _ => simp [noRo]
theorem killJ_get {js : List Nat} {ρ : List Ent} {j : Nat} {e : Ent} {n : Nat} {U : T} (h : ρ[j]? = some e) (ho : e.own = some (n, U)) : (killJ js ρ)[j]? = some e := by
  unfold killJ
  rw [List.getElem?_map, h]
  show some (noRo js e) = some e
  rw [noRo_own js e (by rw [ho]; exact fun z => nomatch z)]
theorem Owns.get {n i : Nat} : ∀ {ts : List T} {vs : List V} {F : List Addr} {t : T}, Owns K H S n ts vs F → ts[i]? = some t → ∃ v, vs[i]? = some v := fun {ts vs F t} h e => by
  have hl := (List.getElem?_eq_some_iff.mp e).1
  rw [Owns.length h] at hl
  exact ⟨vs[i], List.getElem?_eq_getElem hl⟩
theorem Owns.snoc {n : Nat} {t : T} {v : V} {G : List Addr} : ∀ {ts : List T} {vs : List V} {F : List Addr}, Owns K H S n ts vs F → Own K H S n t v G → Owns K H S n (ts ++ [t]) (vs ++ [v]) (F ++ G)
  | [], _, _, h, o => by
    cases h
    have z := Owns.cons o Owns.nil
    simpa using z
  | u :: ts, _, _, h, o => by
    cases h with
    | @cons n t0 ts v0 vs F1 F2 a r =>
      have z := Owns.cons a (Owns.snoc r o)
      simpa using z
/-- the value of the last temporary stored as child i of an owned node, or as a further child; what the node is then may be another kind -/
theorem Sta.mut {m : Nat} {t2 : T} {v2 : V} {F2 : List Addr} (s : Sta K f (τ ++ [tmp m t2 v2 F2]) ρ σ H)
    {j n : Nat} {e : Ent} {U : T} {v0 : V} {p : List Nat} {kd : NK} {ts : List T} {a : Addr} (he : ρ[j]? = some e) (ho : e.own = some (n, U)) (hv : σ[j]? = some (some v0)) (w : Way H U v0 p (.nd kd ts) (.ref a)) (hp : p.length < n) (hf : TL.fit (n - p.length - 1) m t2) :
    ∃ (oa : HO) (vs : List V), H a = some oa ∧ kd.is oa vs ∧ vs.length = ts.length ∧ (p ≠ [] → v0 ≠ .ref a) ∧
      (∀ i kd' o', i < ts.length → kd'.is o' (vs.set i v2) → Sta K f τ ((TL.killJ [j] ρ).set j (e.put (T.put (.nd kd' (ts.set i t2)) p U))) σ (upd H a o')) ∧
      ∀ kd' o', kd'.is o' (vs ++ [v2]) → Sta K f τ ((TL.killJ [j] ρ).set j (e.put (T.put (.nd kd' (ts ++ [t2])) p U))) σ (upd H a o') := by
  obtain ⟨S, rs, s⟩ := s.killJ [j]
  obtain ⟨oa, vs, Fs, F2', S', hA, hK, r2, hS, o2, na1, na2, nSa, nd1, nd2, dj, nv0, k⟩ := s.core (killJ_nr j ρ) (killJ_get he ho) ho hv w hp hf
  have kp : ∀ (o' : HO) (G : List Addr), a ∉ G → Kp H (upd H a o') S G := fun o' G hG =>
    ⟨fun b xs h => by rw [upd_ne (fun z => by rw [z, hA] at h; exact hK.ntup (Option.some.inj h))]; exact h, fun b o u h => by rw [upd_ne (fun z => by rw [z, hA] at h; exact hK.nfrz (Option.some.inj h))]; exact h, fun b xs hb h => by
      rw [upd_ne (fun z => by
        subst z
        rcases hb with hb | hb
        · exact nSa (hS _ hb)
        · exact hG hb)]
      exact h⟩
  have kp' : ∀ (o' : HO) (G : List Addr), a ∉ G → Kp H (upd H a o') S' G := fun o' G hG =>
    ⟨fun b xs h => by rw [upd_ne (fun z => by rw [z, hA] at h; exact hK.ntup (Option.some.inj h))]; exact h, fun b o u h => by rw [upd_ne (fun z => by rw [z, hA] at h; exact hK.nfrz (Option.some.inj h))]; exact h, fun b xs hb h => by
      rw [upd_ne (fun z => by
        subst z
        rcases hb with hb | hb
        · exact nSa hb
        · exact hG hb)]
      exact h⟩
  refine ⟨oa, vs, hA, hK, r2.length.symm, nv0, fun i kd' o' hi hk' => ?_, fun kd' o' hk' => ?_⟩
  · obtain ⟨v, ev⟩ := r2.get (List.getElem?_eq_getElem hi)
    obtain ⟨G1, Gi, G2, rfl, oi, ki⟩ := r2.split (List.getElem?_eq_getElem hi) ev
    have z := ki (upd H a o') S' t2 v2 F2' hS (kp _ _ (by simp at na1; simp [na1])) (kp _ _ (by simp at na1; simp [na1])) (o2.keep (fun _ z => z) (kp' _ _ na2))
    obtain ⟨n1, n2, n3⟩ := List.nodup_append.mp nd1
    obtain ⟨n4, n5, n6⟩ := List.nodup_append.mp n1
    refine k kd' o' _ _ _ hk' z ?_ fun b hb => ?_
    · refine List.nodup_append.mpr ⟨List.nodup_append.mpr ⟨n4, nd2, fun x hx y hy e => ?_⟩, n2, fun x hx y hy e => ?_⟩
      · subst e; exact dj x (by simp [hx]) hy
      · subst e
        rcases List.mem_append.mp hx with hx | hx
        · exact n3 x (by simp [hx]) x hy rfl
        · exact dj x (by simp [hy]) hx
    · simp at hb ⊢
      rcases hb with hb | hb | hb <;> simp [hb]
  · have z := Owns.snoc (r2.keep hS (kp o' _ na1)) (o2.keep (fun _ z => z) (kp' o' _ na2))
    refine k kd' o' _ _ _ hk' z (List.nodup_append.mpr ⟨nd1, nd2, fun x hx y hy e => ?_⟩) fun b hb => List.mem_append.mp hb
    subst e
    exact dj x hx hy
/-- .. of an owned list -/
theorem Sta.mutL {m : Nat} {t2 : T} {v2 : V} {F2 : List Addr} (s : Sta K f (τ ++ [tmp m t2 v2 F2]) ρ σ H)
    {j n : Nat} {e : Ent} {U : T} {v0 : V} {p : List Nat} {ts : List T} {a : Addr} (he : ρ[j]? = some e) (ho : e.own = some (n, U)) (hv : σ[j]? = some (some v0)) (w : Way H U v0 p (.lst ts) (.ref a)) (hp : p.length < n) (hf : TL.fit (n - p.length - 1) m t2) :
    ∃ vs : List V, H a = some (.lst vs) ∧ vs.length = ts.length ∧ (p ≠ [] → v0 ≠ .ref a) ∧
      (∀ i, i < ts.length → Sta K f τ ((TL.killJ [j] ρ).set j (e.put (T.put (.lst (ts.set i t2)) p U))) σ (upd H a (.lst (vs.set i v2)))) ∧
      Sta K f τ ((TL.killJ [j] ρ).set j (e.put (T.put (.lst (ts ++ [t2])) p U))) σ (upd H a (.lst (vs ++ [v2]))) := by
  obtain ⟨oa, vs, h1, h2, h3, h4, h5, h6⟩ := s.mut he ho hv w hp hf
  have h2 : oa = .lst vs := h2
  subst h2
  exact ⟨vs, h1, h3, h4, fun i hi => h5 i .lst _ hi rfl, h6 .lst _ rfl⟩
end
end TL
set_option Elab.async false
set_option linter.all false
set_option maxRecDepth 100000
namespace TL
open PySem PySem.Spec PyProof.Rows L2
section
variable {K : PySem.W.Frag} {f : Fm} {S S' : Addr → Prop} {H H' : Hp} {τ τ' ms rs rs' : List Root} {ρ ρ' : List Ent} {σ : St}
/-! ### slot i anew, without a footprint -/
theorem StaW.setE0 (s : StaW K f τ ρ σ H S rs) {i : Nat} {e' : Ent} {v : V} (hi : i < ρ.length) (hs : SlotR K H S e' (some v) []) (hio : ∀ n t, e' ≠ .io n t)
    (hal : ∀ j k t, e' = .al j k t → j ≠ i ∧ ∃ (r : Root) (n : Nat) (U : T) (v0 : V) (Fi : List Addr), rs[j]? = some r ∧ r.e.own = some (n + 1, U) ∧ r.o = some v0 ∧ Way H U v0 [k] t v ∧ Own K H S n t v Fi ∧ ∀ b ∈ Fi, b ∈ r.F) :
    StaW K f τ (setE ρ i e') (σ.set i (some v)) H S ((rs.map (Root.noAl i)).set i ⟨e', some v, []⟩) where
  e := by
    rw [List.map_set, List.map_map]
    unfold setE killA
    rw [← s.e, List.map_map]
    rfl
  o := by
    rw [List.map_set, List.map_map]
    show (List.map (fun r => r.o) rs).set i (some v) = σ.set i (some v)
    rw [s.o]
  good := by
    have hl := s.len
    have len : ((rs.map (Root.noAl i)).set i (⟨e', some v, []⟩ : Root)).length = rs.length := by rw [List.length_set, List.length_map]
    have hold : ∀ m r, m ≠ i → ((rs.map (Root.noAl i)).set i (⟨e', some v, []⟩ : Root) ++ τ)[m]? = some r → (r.e = .no ∧ r.F = []) ∨ (rs ++ τ)[m]? = some r := fun m r hm e => by
      by_cases hlt : m < rs.length
      · rw [List.getElem?_append_left (by omega), List.getElem?_set_ne (Ne.symm hm), List.getElem?_map] at e
        cases q : rs[m]? with
        | none => rw [q] at e; cases e
        | some r0 =>
          rw [q] at e
          have e := (Option.some.inj e).symm
          rcases noAl_cases i r0.e with h | ⟨k, u, h, h2⟩
          · right
            rw [e]
            unfold Root.noAl
            rw [h]
            exact getElem?_app q
          · left
            rw [e]
            exact ⟨h2, show r0.F = [] from s.alF (getElem?_app q) h⟩
      · rw [List.getElem?_append_right (by omega), len] at e
        right
        rw [List.getElem?_append_right (by omega)]
        exact e
    have k0 : ∀ F, Kp H H S F := fun F => kp_refl
    exact s.good.repl (fun m => m) i (r' := ⟨e', some v, []⟩) (getElem?_app (by rw [List.getElem?_set_self (by rw [List.length_map]; omega)])) hold (fun _ _ _ _ _ _ _ _ _ _ z => z) hs List.nodup_nil (fun a z => nomatch z) (fun a z => nomatch z) (fun _ z => z)
      (fun m q hm _ h a ha => ((s.good.slot m q h).2.2 a ha).1) (fun m q _ _ _ => ⟨k0 _, fun _ _ => kp_refl⟩) s.good.trk s.good.fr s.good.src
  al := fun k j l u h => by
    by_cases hk : k = i
    · subst hk
      have e0 := setE_same h
      obtain ⟨nj, r, n, U, v0, Fi, a1, a2, a3, a4, a5, a6⟩ := hal j l u e0.symm
      refine ⟨⟨r.noAl k, n, U, v0, v, Fi, ?_, ?_, a3, ?_, a4, a5, a6⟩⟩
      · rw [List.getElem?_set_ne (Ne.symm nj), List.getElem?_map, a1]; rfl
      · exact (noAl_own k r.e).trans a2
      · rw [List.getElem?_set_self (by rw [← s.lenσ, s.len]; exact hi)]
    · obtain ⟨y, hy, e⟩ := setE_get h hk
      obtain ⟨e2, nj⟩ := noAl_al e.symm
      subst e2
      obtain ⟨r, n', U, v0, v1, Fi, a1, a2, a3, a4, a5, a6, a7⟩ := (s.al k j l u hy).ex
      refine ⟨⟨r.noAl i, n', U, v0, v1, Fi, ?_, ?_, a3, ?_, a5, a6, a7⟩⟩
      · rw [List.getElem?_set_ne (Ne.symm nj), List.getElem?_map, a1]; rfl
      · exact (noAl_own i r.e).trans a2
      · rw [List.getElem?_set_ne (Ne.symm hk)]; exact a4
  io := fun k n' u h => by
    by_cases hk : k = i
    · subst hk
      exact absurd (setE_same h).symm (hio n' u)
    · obtain ⟨y, hy, e⟩ := setE_get h hk
      have e2 := noAl_io e.symm
      subst e2
      rw [List.getElem?_set_ne (Ne.symm hk)]
      exact s.io k n' u hy
  tm := s.tm
/-- a slot's value taken as a temporary -/
theorem StaW.copyV (s : StaW K f τ ρ σ H S rs) {i : Nat} {t : T} (he : ρ[i]? = some (.ow 0 t)) : ∃ v, σ[i]? = some (some v) ∧ StaW K f (τ ++ [tmp 0 t v []]) ρ σ H S rs := by
  obtain ⟨r, g1, g2, g3, g4⟩ := s.get he
  have z := (s.good.slot i r g1).1
  rw [g2] at z
  obtain ⟨v, e, q⟩ := z
  have e2 := q.zero
  rw [e2] at q
  exact ⟨v, by rw [g3, e], s.pushS q⟩
theorem StaW.moveV (s : StaW K f τ ρ σ H S rs) {i n : Nat} {t : T} (he : ρ[i]? = some (.ow n t)) : ∃ v F rs', σ[i]? = some (some v) ∧ StaW K f (τ ++ [tmp n t v F]) (setE ρ i .no) σ H S rs' := by
  obtain ⟨r, g1, g2, g3, g4⟩ := s.get he
  have z := s.good.slot i r g1
  obtain ⟨v, ev, own⟩ := z.1.own (n := n) (t := t) (by rw [g2]; rfl)
  have il : i < rs.length := (List.getElem?_eq_some_iff.mp g4).1
  have hl := s.len
  have s0 := s.setE0 (i := i) (e' := .no) (v := v) (by omega) (by rfl) (fun _ _ z => nomatch z) (fun _ _ _ z => nomatch z)
  have eσ : σ.set i (some v) = σ := set_self (by rw [g3, ev])
  rw [eσ] at s0
  refine ⟨v, r.F, _, by rw [g3, ev], ⟨s0.e, s0.o, ?_, s0.al, s0.io, tm_app s.tm ⟨_, _, rfl⟩⟩⟩
  have er : r = tmp n t v r.F := by
    obtain ⟨re, ro, rF⟩ := r
    simp at g2 ev
    subst g2; subst ev
    rfl
  rw [← List.append_assoc]
  have len : (((rs.map (Root.noAl i)).set i (⟨.no, some v, []⟩ : Root)) ++ τ).length = (rs ++ τ).length := by rw [List.length_append, List.length_append, List.length_set, List.length_map]
  refine s.good.pick (fun m => if m = (rs ++ τ).length then i else m) (fun m q e => ?_) fun a b ra rb ha hb na nb z => ?_
  · rcases app_old e with ⟨e1, rfl⟩ | ⟨e1, e2⟩
    · right
      rw [len] at e1
      rw [if_pos e1, g1, ← er]
    · rw [len] at e1
      rw [if_neg (by omega)]
      by_cases hm : m = i
      · subst hm
        rw [List.getElem?_append_left (by rw [List.length_set, List.length_map]; omega), List.getElem?_set_self (by rw [List.length_map]; omega)] at e2
        rw [← Option.some.inj e2]
        exact .inl ⟨rfl, rfl⟩
      · by_cases hlt : m < rs.length
        · rw [List.getElem?_append_left (by rw [List.length_set, List.length_map]; omega), List.getElem?_set_ne (Ne.symm hm), List.getElem?_map] at e2
          cases q0 : rs[m]? with
          | none => rw [q0] at e2; cases e2
          | some r0 =>
            rw [q0] at e2
            have e2 := (Option.some.inj e2).symm
            rcases noAl_cases i r0.e with h | ⟨k, u, h, h2⟩
            · right
              rw [e2]
              unfold Root.noAl
              rw [h]
              exact getElem?_app q0
            · left
              rw [e2]
              exact ⟨h2, show r0.F = [] from s.alF (getElem?_app q0) h⟩
        · rw [List.getElem?_append_right (by rw [List.length_set, List.length_map]; omega), List.length_set, List.length_map] at e2
          right
          rw [List.getElem?_append_right (by omega)]
          exact e2
  · have noi : ∀ {m : Nat} {q : Root}, (((rs.map (Root.noAl i)).set i (⟨.no, some v, []⟩ : Root)) ++ τ ++ [tmp n t v r.F])[m]? = some q → q.F ≠ [] → m ≠ i := fun {m q} h hn hm => by
      subst hm
      rw [List.append_assoc, List.getElem?_append_left (by rw [List.length_set, List.length_map]; omega), List.getElem?_set_self (by rw [List.length_map]; omega)] at h
      rw [← Option.some.inj h] at hn
      exact hn rfl
    have h1 := noi ha na
    have h2 := noi hb nb
    have la := (List.getElem?_eq_some_iff.mp ha).1
    have lb := (List.getElem?_eq_some_iff.mp hb).1
    rw [List.length_append, len, List.length_singleton] at la lb
    by_cases c1 : a = (rs ++ τ).length
    · by_cases c2 : b = (rs ++ τ).length
      · omega
      · rw [if_pos c1, if_neg c2] at z; omega
    · by_cases c2 : b = (rs ++ τ).length
      · rw [if_neg c1, if_pos c2] at z; omega
      · rw [if_neg c1, if_neg c2] at z; exact z
/-- the last temporary's kind lowered -/
theorem StaW.fitV {k m : Nat} {t : T} {v : V} {F : List Addr} (s : StaW K f (τ ++ [tmp m t v F]) ρ σ H S rs) (hf : TL.fit k m t) : ∃ F' S', (∀ a, S a → S' a) ∧ StaW K f (τ ++ [tmp k t v F']) ρ σ H S' rs := by
  have gt : (rs ++ (τ ++ [tmp m t v F]))[(rs ++ τ).length]? = some (tmp m t v F) := by
    rw [← List.append_assoc]; exact getElem?_last
  obtain ⟨p1, p2, p3⟩ := s.good.slot _ _ gt
  obtain ⟨v2', e2, own⟩ := p1
  have e0 : v = v2' := Option.some.inj e2
  subst e0
  obtain ⟨F', sub, k3⟩ := own.fit hf
  refine ⟨F', fun b => S b ∨ (b ∈ F ∧ b ∉ F'), fun _ => .inl, ⟨s.e, s.o, ?_, fun k' j i u h => (s.al k' j i u h).mono fun _ => .inl, s.io, tm_app (fun r h => s.tm r (List.mem_append_left _ h)) ⟨_, _, rfl⟩⟩⟩
  rw [← List.append_assoc]
  have kr : ∀ G, Kp H H S G := fun _ => kp_refl
  refine s.good.repl (fun m => m) (rs ++ τ).length (r' := tmp k t v F') getElem?_last (fun m' q hm h => ?_) (fun _ _ _ _ _ _ _ _ _ _ z => z) ⟨v, rfl, k3 _ (fun _ => .inl) (fun b h1 h2 => .inr ⟨h1, h2⟩) p2⟩ (p2.sublist sub) (fun b hb => ⟨fun z => ?_, (p3 b (sub.subset hb)).2⟩)
    (fun b hb m' q hm _ h => s.good.dj _ _ _ _ gt h (Ne.symm hm) b (sub.subset hb)) (fun _ => .inl) (fun m' q hm _ h b hb z => ?_) (fun m' q hm _ _ => ⟨kr _, fun _ _ => kp_refl⟩) (fun b hb => ?_) s.good.fr fun b hb => ?_
  · right
    rcases app_old h with ⟨e1, _⟩ | ⟨_, e1⟩
    · exact absurd e1 hm
    · rw [← List.append_assoc]; exact getElem?_app e1
  · rcases z with z | ⟨_, z⟩
    · exact (p3 b (sub.subset hb)).1 z
    · exact z hb
  · rcases z with z | ⟨z, _⟩
    · exact ((s.good.slot _ _ h).2.2 b hb).1 z
    · exact s.good.dj _ _ _ _ gt h (Ne.symm hm) b z hb
  · rcases hb with hb | ⟨hb, _⟩
    · exact s.good.trk b hb
    · obtain ⟨xs, z⟩ := own.there b hb
      rw [z]; exact fun z => nomatch z
  · rcases hb with hb | ⟨hb, _⟩
    · exact s.good.src b hb
    · exact .inr (p3 b hb).2

/-! ### several temporaries -/
inductive Tms : List Nat → List T → List V → List Root → Prop
  | nil : Tms [] [] [] []
  | cons {k : Nat} {ks : List Nat} {t : T} {ts : List T} {v : V} {vs : List V} {F : List Addr} {ms : List Root} : Tms ks ts vs ms → Tms (k :: ks) (t :: ts) (v :: vs) (tmp k t v F :: ms)
def foot (ms : List Root) : List Addr := ms.flatMap (·.F)
theorem mem_foot {a : Addr} (h : a ∈ foot ms) : ∃ (i : Nat) (r : Root), ms[i]? = some r ∧ a ∈ r.F := by
  unfold foot at h
  obtain ⟨r, h1, h2⟩ := List.mem_flatMap.mp h
  obtain ⟨i, h3⟩ := List.mem_iff_getElem?.mp h1
  exact ⟨i, r, h3, h2⟩
theorem Good.footnd : ∀ {ms pre : List Root}, Good K f S (pre ++ ms) H → (foot ms).Nodup
  | [], _, _ => List.nodup_nil
  | r :: ms, pre, G => by
    show (r.F ++ foot ms).Nodup
    have h0 : (pre ++ r :: ms)[pre.length]? = some r := by rw [List.getElem?_append_right (Nat.le_refl _), Nat.sub_self]; rfl
    have G' : Good K f S ((pre ++ [r]) ++ ms) H := by
      have e : pre ++ [r] ++ ms = pre ++ r :: ms := by simp
      rw [e]; exact G
    refine List.nodup_append.mpr ⟨(G.slot _ _ h0).2.1, Good.footnd G', fun x hx y hy e => ?_⟩
    subst e
    obtain ⟨i, q, h1, h2⟩ := mem_foot hy
    have h3 : (pre ++ r :: ms)[pre.length + (i + 1)]? = some q := by
      rw [List.getElem?_append_right (by omega)]
      have e : pre.length + (i + 1) - pre.length = i + 1 := by omega
      rw [e]
      simpa using h1
    exact G.dj _ _ _ _ h0 h3 (by omega) x hx h2
theorem Tms.owns {k : Nat} : ∀ {ks : List Nat} {ts : List T} {vs : List V} {ms : List Root}, Tms ks ts vs ms → (∀ m ∈ ks, m = k) → (∀ r ∈ ms, SlotR K H S r.e r.o r.F) → Owns K H S k ts vs (foot ms)
  | _, _, _, _, .nil, _, _ => .nil
  | _, _, _, _, @Tms.cons k0 ks t ts v vs F ms h, hk, hs => by
    have e : k0 = k := hk k0 List.mem_cons_self
    subst e
    obtain ⟨v', e, q⟩ := hs _ List.mem_cons_self
    have e : v = v' := Option.some.inj e
    subst e
    exact Owns.cons q (Tms.owns h (fun m hm => hk m (List.mem_cons_of_mem _ hm)) fun r hr => hs r (List.mem_cons_of_mem _ hr))
theorem Tms.tmps : ∀ {ks : List Nat} {ts : List T} {vs : List V} {ms : List Root}, Tms ks ts vs ms → ∀ r ∈ ms, ∃ n t, r.e = .ow n t
  | _, _, _, _, .nil, _, h => nomatch h
  | _, _, _, _, .cons h, r, hr => by
    rcases List.mem_cons.mp hr with rfl | hr
    · exact ⟨_, _, rfl⟩
    · exact Tms.tmps h r hr
/-- temporaries become the items of a new list or tuple -/
theorem StaW.join {k : Nat} {ks : List Nat} {ts : List T} {vs : List V} (s : StaW K f (τ ++ ms) ρ σ H S rs) (h : Tms ks ts vs ms) (hk : ∀ m ∈ ks, m = k) {p : Addr} (hp : H p = none) {o : HO} {t : T} {n : Nat} {Fp : List Addr}
    (hFp : Fp = [] ∨ (Fp = [p] ∧ ∃ (k' : NK) (xs : List V), k'.is o xs)) (hO : ∀ H' : Hp, H' p = some o → Owns K H' S k ts vs (foot ms) → Own K H' S n t (.ref p) (Fp ++ foot ms)) : StaW K f (τ ++ [tmp n t (.ref p) (Fp ++ foot ms)]) ρ σ (upd H p o) S rs := by
  have hs : Same H (upd H p o) := fun b o' e => by rw [upd_ne (ne_of_none e hp)]; exact e
  have s' := s.same hs
  refine ⟨s.e, s.o, ?_, s'.al, s.io, tm_app (fun r hr => s.tm r (List.mem_append_left _ hr)) ⟨_, _, rfl⟩⟩
  have G := s'.good
  rw [← List.append_assoc] at G
  rw [← List.append_assoc]
  have hin : ∀ r ∈ ms, r ∈ rs ++ τ ++ ms := fun r hr => List.mem_append_right _ hr
  have hms : ∀ r ∈ ms, SlotR K (upd H p o) S r.e r.o r.F := fun r hr => by
    obtain ⟨i, hi⟩ := List.mem_iff_getElem?.mp (hin r hr)
    exact (G.slot i r hi).1
  have own := hO _ upd_same (h.owns hk hms)
  have idx : ∀ a ∈ foot ms, ∃ (i : Nat) (r : Root), (rs ++ τ ++ ms)[(rs ++ τ).length + i]? = some r ∧ a ∈ r.F := fun a ha => by
    obtain ⟨i, r, h1, h2⟩ := mem_foot ha
    refine ⟨i, r, ?_, h2⟩
    rw [List.getElem?_append_right (by omega)]
    have e : (rs ++ τ).length + i - (rs ++ τ).length = i := by omega
    rw [e]; exact h1
  have notp : ∀ {i : Nat} {r : Root}, (rs ++ τ ++ ms)[i]? = some r → p ∉ r.F := fun {i r} hi hm => by
    have G0 := s.good
    rw [← List.append_assoc] at G0
    obtain ⟨xs, z⟩ := G0.own_there hi hm
    rw [hp] at z; cases z
  have inFp : ∀ a ∈ Fp, a = p := fun a ha => by
    rcases hFp with z | ⟨z, _⟩
    · rw [z] at ha; cases ha
    · rw [z] at ha; simpa using ha
  have ndFp : Fp.Nodup := by
    rcases hFp with z | ⟨z, _⟩ <;> (rw [z]; simp)
  have kr : ∀ F', Kp (upd H p o) (upd H p o) S F' := fun _ => kp_refl
  have kr2 : Kp (upd H p o) (upd H p o) (fun _ => True) [] := kp_refl
  refine G.repl (fun m => m) (rs ++ τ).length (r' := tmp n t (.ref p) (Fp ++ foot ms)) getElem?_last (fun m' q hm h => ?_) (fun _ _ _ _ _ _ _ _ _ _ z => z) ⟨_, rfl, own⟩ ?_ (fun b hb => ?_) (fun b hb m' q hm h1 h2 => ?_) (fun _ z => z)
    (fun m' q hm _ h b hb => ((G.slot _ _ h).2.2 b hb).1) (fun m' q hm _ _ => ⟨kr _, fun _ _ => kr2⟩) G.trk G.fr G.src
  · right
    rcases app_old h with ⟨e1, _⟩ | ⟨_, e1⟩
    · exact absurd e1 hm
    · exact getElem?_app e1
  · refine List.nodup_append.mpr ⟨ndFp, G.footnd, fun x hx y hy e => ?_⟩
    subst e
    obtain ⟨i, r, h1, h2⟩ := idx x hy
    exact notp h1 (inFp x hx ▸ h2)
  · rcases List.mem_append.mp hb with hb | hb
    · have e := inFp b hb
      subst e
      exact ⟨fun z => s.good.trk b z hp, s.good.none_src hp⟩
    · obtain ⟨i, r, h1, h2⟩ := idx b hb
      exact (G.slot _ _ h1).2.2 b h2
  · have hl : m' < (rs ++ τ).length := by
      rcases app_old h1 with ⟨e1, _⟩ | ⟨e1, _⟩
      · exact absurd e1 hm
      · exact e1
    rcases List.mem_append.mp hb with hb | hb
    · have e := inFp b hb
      subst e
      exact notp h2
    · obtain ⟨i, r, h3, h4⟩ := idx b hb
      exact G.dj _ _ _ _ h3 h2 (by omega) b h4
end
end TL
set_option Elab.async false
set_option linter.all false
set_option maxRecDepth 100000
namespace TL
open PySem PySem.Spec PyProof.Rows L2

/-! ### the judgements -/
/-- an expression that changes nothing: what it is worth as a tree -/
structure TPE (X : Cx) (e : Expr) (w : List Ent → (T → Prop) → Prop) : Prop where
  ok : ∃ tt : TE, PE X e tt ∧ ∀ (S : Addr → Prop) (ρ : List Ent) (σ : St) (H : Hp) (Q : VK) (R : T → Prop), RdS X.K S ρ σ H → w ρ R → (∀ t v H', R t → Same H H' → Shr X.K H' (fresh S H) t v → Q v H') → tt σ H Q
structure TPT (X : Cx) (e : Expr) (w : List Ent → (Bool → Prop) → Prop) : Prop where
  ok : ∃ tt : TT, PT X e tt ∧ ∀ (S : Addr → Prop) (ρ : List Ent) (σ : St) (H : Hp) (Q : Bool → Hp → Prop) (R : Bool → Prop), RdS X.K S ρ σ H → w ρ R → (∀ b H', R b → Same H H' → Q b H') → tt σ H Q
structure TPW (X : Cx) (e : Expr) (w : List Ent → (Bool → Prop) → Prop) : Prop where
  ok : ∃ tt : TT, PW X e tt ∧ ∀ (S : Addr → Prop) (ρ : List Ent) (σ : St) (H : Hp) (Q : Bool → Hp → Prop) (R : Bool → Prop), RdS X.K S ρ σ H → w ρ R → (∀ b H', R b → Same H H' → Q b H') → tt σ H Q
structure TPA (X : Cx) (es : List Expr) (w : List Ent → (List T → Prop) → Prop) : Prop where
  ok : ∃ tt : TA, PA X es tt ∧ ∀ (S : Addr → Prop) (ρ : List Ent) (σ : St) (H : Hp) (Q : List V → Hp → Prop) (R : List T → Prop), RdS X.K S ρ σ H → w ρ R → (∀ ts vs H', R ts → Same H H' → Shrs X.K H' (fresh S H) ts vs → Q vs H') → tt σ H Q
/-- an expression that may change what is owned: its value is held as a temporary -/
structure TVE (X : Cx) (e : Expr) (w : List Ent → (Nat → T → List Ent → Prop) → Prop) : Prop where
  ok : ∃ tt : TE, PE X e tt ∧ ∀ (f : Fm) (τ : List Root) (ρ : List Ent) (σ : St) (H : Hp) (Q : VK) (R : Nat → T → List Ent → Prop), Sta X.K f τ ρ σ H → w ρ R → (∀ n t ρ' v F H', R n t ρ' → Sta X.K f (τ ++ [tmp n t v F]) ρ' σ H' → Q v H') → tt σ H Q
structure TVT (X : Cx) (e : Expr) (w : List Ent → (Bool → List Ent → Prop) → Prop) : Prop where
  ok : ∃ tt : TT, PT X e tt ∧ ∀ (f : Fm) (τ : List Root) (ρ : List Ent) (σ : St) (H : Hp) (Q : Bool → Hp → Prop) (R : Bool → List Ent → Prop), Sta X.K f τ ρ σ H → w ρ R → (∀ b ρ' H', R b ρ' → Sta X.K f τ ρ' σ H' → Q b H') → tt σ H Q
structure TVW (X : Cx) (e : Expr) (w : List Ent → (Bool → List Ent → Prop) → Prop) : Prop where
  ok : ∃ tt : TT, PW X e tt ∧ ∀ (f : Fm) (τ : List Root) (ρ : List Ent) (σ : St) (H : Hp) (Q : Bool → Hp → Prop) (R : Bool → List Ent → Prop), Sta X.K f τ ρ σ H → w ρ R → (∀ b ρ' H', R b ρ' → Sta X.K f τ ρ' σ H' → Q b H') → tt σ H Q
/-- several, each of its kind -/
structure TVA (X : Cx) (ks : List Nat) (es : List Expr) (w : List Ent → (List T → List Ent → Prop) → Prop) : Prop where
  ok : ∃ tt : TA, PA X es tt ∧ ∀ (f : Fm) (τ : List Root) (ρ : List Ent) (σ : St) (H : Hp) (Q : List V → Hp → Prop) (R : List T → List Ent → Prop), Sta X.K f τ ρ σ H → w ρ R → (∀ ts ρ' vs ms H', R ts ρ' → Tms ks ts vs ms → Sta X.K f (τ ++ ms) ρ' σ H' → Q vs H') → tt σ H Q

/-! ### values by operators -/
abbrev F1 := T → (T → Prop) → Prop
abbrev F2 := T → T → (T → Prop) → Prop
def OpT (K : PySem.W.Frag) (r : R2) (g : F2) : Prop := ∀ (S : Addr → Prop) (H : Hp) (x y : V) (t u : T) (Q : VK) (R : T → Prop), Shr K H S t x → Shr K H S u y → g t u R → (∀ z v H', R z → Same H H' → Shr K H' (fresh S H) z v → Q v H') → r x y H Q
def UnT (K : PySem.W.Frag) (r : V → Hp → VK → Prop) (g : F1) : Prop := ∀ (S : Addr → Prop) (H : Hp) (x : V) (t : T) (Q : VK) (R : T → Prop), Shr K H S t x → g t R → (∀ z v H', R z → Same H H' → Shr K H' (fresh S H) z v → Q v H') → r x H Q
def CaT (K : PySem.W.Frag) (r : List V → Hp → VK → Prop) (g : List T → (T → Prop) → Prop) : Prop := ∀ (S : Addr → Prop) (H : Hp) (xs : List V) (ts : List T) (Q : VK) (R : T → Prop), Shrs K H S ts xs → g ts R → (∀ z v H', R z → Same H H' → Shr K H' (fresh S H) z v → Q v H') → r xs H Q
def gI2 (g : Int → Int → T) : F2 := fun x y R => match x, y with
  | .int i, .int j => R (g i j)
  | _, _ => False
def gI2c (C : Int → Int → Prop) (g : Int → Int → T) : F2 := fun x y R => match x, y with
  | .int i, .int j => C i j ∧ R (g i j)
  | _, _ => False
section
variable {K : PySem.W.Frag} {S : Addr → Prop} {H H' : Hp}
theorem fr_int {i : Int} : Shr K H S (.int i) (.int i) := .int i
theorem fr_bl {i : Bool} : Shr K H S (.bl i) (.bl i) := .bl i
theorem opT_int {g : Int → Int → Int} : OpT K (rI0 fun i j => .int (g i j)) (gI2 fun i j => .int (g i j)) := by
  intro S H x y t u Q R h1 h2 hg hq
  cases t <;> first | exact hg.elim | skip
  cases u <;> first | exact hg.elim | skip
  exact ⟨_, _, (shr_int h1), (shr_int h2), hq _ _ _ hg (Same.refl H) (.int _)⟩
theorem opT_intc {C : Int → Int → Prop} {g : Int → Int → Int} : OpT K (rI C fun i j => .int (g i j)) (gI2c C fun i j => .int (g i j)) := by
  intro S H x y t u Q R h1 h2 hg hq
  cases t <;> first | exact hg.elim | skip
  cases u <;> first | exact hg.elim | skip
  exact ⟨_, _, (shr_int h1), (shr_int h2), hg.1, hq _ _ _ hg.2 (Same.refl H) (.int _)⟩
theorem opT_bl {g : Int → Int → Bool} : OpT K (rI0 fun i j => .bl (g i j)) (gI2 fun i j => .bl (g i j)) := by
  intro S H x y t u Q R h1 h2 hg hq
  cases t <;> first | exact hg.elim | skip
  cases u <;> first | exact hg.elim | skip
  exact ⟨_, _, (shr_int h1), (shr_int h2), hq _ _ _ hg (Same.refl H) (.bl _)⟩
theorem unT_int {g : Int → Int} : UnT K (rU fun i => .int (g i)) (fun x R => match x with | .int i => R (.int (g i)) | _ => False) := by
  intro S H x t Q R h1 hg hq
  cases t <;> first | exact hg.elim | skip
  exact ⟨_, (shr_int h1), hq _ _ _ hg (Same.refl H) (.int _)⟩

/-! ### == of trees -/
mutual
def T.pd : T → PyData
  | .non => .none
  | .bl b => .bool b
  | .int i => .int i
  | .str s => .str s
  | .tup ts => .tuple (T.pds ts)
  | .nd .lst ts => .list (T.pds ts)
  | .nd _ _ => .none
  | .opq _ => .none
  | .exc _ _ _ _ => .none
  | .scr ns => .list (ns.map .int)
def T.pds : List T → List PyData
  | [] => []
  | t :: ts => t.pd :: T.pds ts
end
mutual
def T.data : T → Bool
  | .tup ts => T.datas ts
  | .nd .lst ts => T.datas ts
  | .nd _ _ => false
  | .opq _ => false
  | .exc _ _ _ _ => false
  | .scr _ => false
  | .non => true
  | .bl _ => true
  | .int _ => true
  | .str _ => true
def T.datas : List T → Bool
  | [] => true
  | t :: ts => T.data t && T.datas ts
end
mutual
theorem Shr.dp {t : T} {v : V} (h : Shr K H S t v) (hd : t.data = true) : Dp K H v t.pd := by
  cases t with
  | non => cases h; exact .non
  | bl _ => cases h; exact .bl _
  | int _ => cases h; exact .int _
  | str _ => cases h; exact .str _
  | scr _ => rw [T.data] at hd; cases hd
  | opq _ => rw [T.data] at hd; cases hd
  | exc _ _ _ _ => rw [T.data] at hd; cases hd
  | tup ts =>
    obtain ⟨a, vs, rfl, q, r⟩ := shr_tup h
    rw [T.data] at hd
    rw [T.pd]
    exact .tup q (Shrs.dp r hd)
  | nd kd ts =>
    cases kd with
    | lst =>
      obtain ⟨a, vs, rfl, q, r⟩ := (shr_lst h)
      rw [T.data] at hd
      rw [T.pd]
      exact .lst q.sq (Shrs.dp r hd)
    | dK _ => rw [T.data] at hd <;> first | (cases hd; done) | (intros; simp)
    | dT _ => rw [T.data] at hd <;> first | (cases hd; done) | (intros; simp)
    | ins _ _ => rw [T.data] at hd <;> first | (cases hd; done) | (intros; simp)
theorem Shrs.dp {ts : List T} {vs : List V} (h : Shrs K H S ts vs) (hd : T.datas ts = true) : DpAll K H vs (T.pds ts) := by
  cases ts with
  | nil => cases h; exact .nil
  | cons t ts =>
    obtain ⟨v, r, rfl, a, b⟩ := h.uncons
    rw [T.datas, Bool.and_eq_true] at hd
    exact .cons (Shr.dp a hd.1) (Shrs.dp b hd.2)
end
/-- fit for ==: data, not too deep -/
def T.eqok (t : T) : Bool := t.data && SeqAt.shaped t.pd
def T.eqv (t u : T) : Bool := PyData.eqv t.pd u.pd
theorem opT_eqD : OpT K (rEqD K) (fun t u R => t.eqok = true ∧ u.eqok = true ∧ R (.bl (t.eqv u))) := by
  intro S H x y t u Q R h1 h2 hg hq
  obtain ⟨g1, g2, g3⟩ := hg
  unfold T.eqok at g1 g2
  rw [Bool.and_eq_true] at g1 g2
  exact ⟨t.pd, u.pd, h1.dp g1.1, h2.dp g2.1, g1.2, g2.2, hq _ _ _ g3 (Same.refl H) (.bl _)⟩
theorem opT_neD : OpT K (rNeD K) (fun t u R => t.eqok = true ∧ u.eqok = true ∧ R (.bl (!t.eqv u))) := by
  intro S H x y t u Q R h1 h2 hg hq
  obtain ⟨g1, g2, g3⟩ := hg
  unfold T.eqok at g1 g2
  rw [Bool.and_eq_true] at g1 g2
  exact ⟨t.pd, u.pd, h1.dp g1.1, h2.dp g2.1, g1.2, g2.2, hq _ _ _ g3 (Same.refl H) (.bl _)⟩
def isNon : T → Bool
  | .non => true
  | _ => false
theorem shr_isNon {t : T} {v : V} (h : Shr K H S t v) : decide (v = V.non) = isNon t := by
  cases h <;> first | rfl | exact decide_eq_false (fun z => nomatch z)
theorem opT_isN : OpT K (fun x y H Q => y = .non ∧ Q (.bl (decide (x = .non))) H) (fun t u R => match u with | .non => R (.bl (isNon t)) | _ => False) := by
  intro S H x y t u Q R h1 h2 hg hq
  cases u <;> first | exact hg.elim | skip
  exact ⟨(shr_non h2), hq _ _ _ hg (Same.refl H) (by rw [shr_isNon h1]; exact .bl _)⟩
theorem opT_notN : OpT K (fun x y H Q => y = .non ∧ Q (.bl (!decide (x = .non))) H) (fun t u R => match u with | .non => R (.bl (!isNon t)) | _ => False) := by
  intro S H x y t u Q R h1 h2 hg hq
  cases u <;> first | exact hg.elim | skip
  exact ⟨(shr_non h2), hq _ _ _ hg (Same.refl H) (by rw [shr_isNon h1]; exact .bl _)⟩
/-- x is True, x is False -/
def rIsBV : R2 := fun x y H Q => ∃ b : Bool, y = .bl b ∧ Q (.bl (decide (x = .bl b))) H
theorem op_isBV {X : Cx} : OpR X (compareOp .Is) rIsBV := by
  intro pins s σ H x y v u Q I rx ry h
  obtain ⟨b, rfl, q⟩ := h
  cases (show u = Value.bool b from ry)
  have fin : ∀ {c : Bool}, c = decide (x = V.bl b) → EP X pins σ Q (.bool c) s := fun e => by
    subst e
    exact ⟨.bl _, H, I, rfl, q⟩
  cases x with
  | bl c =>
    cases (show v = Value.bool c from rx)
    refine wpAny_pure (fin ?_)
    by_cases e : c = b
    · subst e; simp
    · rw [decide_eq_false (fun z => e (V.bl.inj z))]
      exact beq_eq_false_iff_ne.mpr (fun z => e (Value.bool.inj z))
  | non => cases (show v = Value.none from rx); exact wpAny_pure (fin (decide_eq_false (fun z => nomatch z)).symm)
  | int _ => obtain ⟨t, rfl⟩ := rx; exact wpAny_pure (fin (decide_eq_false (fun z => nomatch z)).symm)
  | str _ => obtain ⟨t, rfl⟩ := rx; exact wpAny_pure (fin (decide_eq_false (fun z => nomatch z)).symm)
  | byt _ => obtain ⟨t, rfl⟩ := rx; exact wpAny_pure (fin (decide_eq_false (fun z => nomatch z)).symm)
  | flt _ => obtain ⟨t, rfl⟩ := rx; exact wpAny_pure (fin (decide_eq_false (fun z => nomatch z)).symm)
  | ref a => cases (show v = Value.ref a from rx); exact wpAny_pure (fin (decide_eq_false (fun z => nomatch z)).symm)
  | ty n => cases (show v = Value.type n from rx); exact wpAny_pure (fin (decide_eq_false (fun z => nomatch z)).symm)
def isBl (b : Bool) : T → Bool
  | .bl c => c == b
  | _ => false
theorem opT_isBV : OpT K rIsBV (fun t u R => match u with | .bl b => R (.bl (isBl b t)) | _ => False) := by
  intro S H x y t u Q R h1 h2 hg hq
  cases u with
  | bl b =>
    refine ⟨b, (shr_bl h2), hq _ _ _ hg (Same.refl H) ?_⟩
    have e : decide (x = V.bl b) = isBl b t := by
      cases h1 <;> first | exact decide_eq_false (fun z => nomatch z) | skip
      · rename_i c
        show decide (V.bl c = V.bl b) = (c == b)
        by_cases e : c = b
        · subst e; simp
        · rw [decide_eq_false (fun z => e (V.bl.inj z))]
          exact (beq_eq_false_iff_ne.mpr e).symm
    rw [e]
    exact .bl _
  | _ => exact hg.elim
/-- texts compared -/
theorem opT_eqS : OpT K rEq (fun t u R => match t, u with | .str a, .str b => R (.bl (decide (a = b))) | .int a, .int b => R (.bl (decide (a = b))) | .bl a, .bl b => R (.bl (decide (a = b))) | _, _ => False) := by
  intro S H x y t u Q R h1 h2 hg hq
  cases t <;> cases u <;> first | exact hg.elim | skip
  · rw [(shr_bl h1), (shr_bl h2)]
    refine ⟨rfl, hq _ _ _ hg (Same.refl H) ?_⟩
    have e : ∀ a b : Bool, decide (V.bl a = V.bl b) = decide (a = b) := by decide
    rw [e]; exact .bl _
  · rename_i a b
    rw [(shr_int h1), (shr_int h2)]
    refine ⟨rfl, hq _ _ _ hg (Same.refl H) ?_⟩
    have e : decide (V.int a = V.int b) = decide (a = b) := by
      by_cases z : a = b
      · subst z; simp
      · rw [decide_eq_false z, decide_eq_false (fun y => z (V.int.inj y))]
    rw [e]; exact .bl _
  · rename_i a b
    rw [(shr_str h1), (shr_str h2)]
    refine ⟨rfl, hq _ _ _ hg (Same.refl H) ?_⟩
    have e : decide (V.str a = V.str b) = decide (a = b) := by
      by_cases z : a = b
      · subst z; simp
      · rw [decide_eq_false z, decide_eq_false (fun y => z (V.str.inj y))]
    rw [e]; exact .bl _
end

/-! ### pure expressions -/
section
variable {X : Cx} {e a b c : Expr} {es : List Expr} {pos : Pos} {w wa wb wc : List Ent → (T → Prop) → Prop} {wA : List Ent → (List T → Prop) → Prop}
def wVar (i : Nat) : List Ent → (T → Prop) → Prop := fun ρ R => match (ρ[i]?.bind Ent.tr) with
  | some t => R t
  | none => False
def wC (t : T) : List Ent → (T → Prop) → Prop := fun _ R => R t
def w2 (g : F2) (wa wb : List Ent → (T → Prop) → Prop) : List Ent → (T → Prop) → Prop := fun ρ R => wa ρ fun x => wb ρ fun y => g x y R
def w1 (g : F1) (wa : List Ent → (T → Prop) → Prop) : List Ent → (T → Prop) → Prop := fun ρ R => wa ρ fun x => g x R
theorem tp_var (i : Nat) {x : Str} (hN : X.N[i]? = some x := by rfl) (hv : Vis X.env.scope x := by first | exact Or.inl rfl | exact Or.inr (Or.inl rfl) | exact Or.inr (Or.inr rfl)) (hd : (x == ("__debug__" : Str)) = false := by decide)
    (hcd : (x == ("__classdict__" : Str)) = false := by decide) : TPE X (.Name x pos) (wVar i) := by
  refine ⟨⟨_, pe_var hN hv hd hcd, fun S ρ σ H Q R hr hw hq => ?_⟩⟩
  unfold wVar at hw
  cases q : ρ[i]? with
  | none => rw [q] at hw; exact hw.elim
  | some e =>
    rw [q] at hw
    cases q2 : e.tr with
    | none => simp [q2] at hw
    | some t =>
      simp [q2] at hw
      obtain ⟨v, h1, h2⟩ := hr i e t q q2
      exact ⟨v, h1, hq t v H hw (Same.refl H) (h2.mono fun _ => .inl)⟩
theorem tp_c {t : T} {v : V} (h : PE X e (tC v)) (hv : ∀ S H, Shr X.K H S t v) : TPE X e (wC t) := ⟨⟨_, h, fun S ρ σ H Q R _ hw hq => hq t v H hw (Same.refl H) (hv _ _)⟩⟩
theorem tp_int {i : Int} {j : Nat} : TPE X (.Constant (.int i) j pos) (wC (.int i)) := tp_c pe_int fun _ _ => .int i
theorem tp_str {i : Str} {j : Nat} : TPE X (.Constant (.str i) j pos) (wC (.str i)) := tp_c pe_str fun _ _ => .str i
theorem tp_bl {i : Bool} {j : Nat} : TPE X (.Constant (.bool i) j pos) (wC (.bl i)) := tp_c pe_bl fun _ _ => .bl i
theorem tp_non {j : Nat} : TPE X (.Constant .none j pos) (wC .non) := tp_c pe_non fun _ _ => .non
theorem tp_globI {x : Str} {i : Int} (hg : Gl X x) (hm : ∃ t, X.mg x = some (.int i t)) (hd : (x == ("__debug__" : Str)) = false := by decide) : TPE X (.Name x pos) (wC (.int i)) := by
  obtain ⟨t, hm⟩ := hm
  exact tp_c (v := .int i) (pe_glob hg hm ⟨t, rfl⟩ hd) fun _ _ => .int i
theorem shr_up {S : Addr → Prop} {H H1 H2 : Hp} {t : T} {v : V} (h : Shr X.K H1 (fresh S H) t v) (s : Same H1 H2) : Shr X.K H2 (fresh (fresh S H) H1) t v := h.keep (fun _ => .inl) (.same s)
theorem shr_dn {S : Addr → Prop} {H H1 H2 : Hp} {t : T} {v : V} (h : Shr X.K H2 (fresh (fresh S H) H1) t v) (s : Same H H1) : Shr X.K H2 (fresh S H) t v := h.mono fun _ z => fresh_trans s z
theorem two {ta tb : TE} (ka : ∀ (S : Addr → Prop) (ρ : List Ent) (σ : St) (H : Hp) (Q : VK) (R : T → Prop), RdS X.K S ρ σ H → wa ρ R → (∀ t v H', R t → Same H H' → Shr X.K H' (fresh S H) t v → Q v H') → ta σ H Q)
    (kb : ∀ (S : Addr → Prop) (ρ : List Ent) (σ : St) (H : Hp) (Q : VK) (R : T → Prop), RdS X.K S ρ σ H → wb ρ R → (∀ t v H', R t → Same H H' → Shr X.K H' (fresh S H) t v → Q v H') → tb σ H Q)
    {r : R2} {g : F2} (hg : OpT X.K r g) {S : Addr → Prop} {ρ : List Ent} {σ : St} {H : Hp} {Q : VK} {R : T → Prop} (hr : RdS X.K S ρ σ H) (hw : w2 g wa wb ρ R) (hq : ∀ t v H', R t → Same H H' → Shr X.K H' (fresh S H) t v → Q v H') : tOp r ta tb σ H Q := by
  refine ka S ρ σ H _ _ hr hw fun t v H1 h1 s1 x1 => ?_
  refine kb (fresh S H) ρ σ H1 _ _ (hr.same s1) h1 fun u v2 H2 h2 s2 x2 => ?_
  refine hg (fresh (fresh S H) H1) H2 v v2 t u Q R (shr_up x1 s2) x2 h2 fun z v3 H3 h3 s3 x3 => ?_
  exact hq z v3 H3 h3 ((s1.trans s2).trans s3) (shr_dn (shr_dn x3 s2) s1)
theorem tp_op {op : Operator} {r : R2} {g : F2} (ho : OpR X (binaryOp op) r) (hg : OpT X.K r g) (ha : TPE X a wa) (hb : TPE X b wb) : TPE X (.BinOp a op b pos) (w2 g wa wb) := by
  obtain ⟨ta, pa, ka⟩ := ha.ok
  obtain ⟨tb, pb, kb⟩ := hb.ok
  exact ⟨⟨_, pe_op ho pa pb, fun S ρ σ H Q R hr hw hq => two ka kb hg hr hw hq⟩⟩
theorem tp_cmp {op : CmpOp} {r : R2} {g : F2} (ho : OpR X (compareOp op) r) (hg : OpT X.K r g) (ha : TPE X a wa) (hb : TPE X b wb) (hm : behindInMarks op b = false) : TPE X (.Compare a [op] [b] pos) (w2 g wa wb) := by
  obtain ⟨ta, pa, ka⟩ := ha.ok
  obtain ⟨tb, pb, kb⟩ := hb.ok
  exact ⟨⟨_, pe_cmpR ho pa pb hm, fun S ρ σ H Q R hr hw hq => two ka kb hg hr hw hq⟩⟩
theorem tp_un {op : UnaryOp} {r : V → Hp → VK → Prop} {g : F1} (ho : UnR X (unaryOp op) r) (hg : UnT X.K r g) (ha : TPE X a wa) : TPE X (.UnaryOp op a pos) (w1 g wa) := by
  obtain ⟨ta, pa, ka⟩ := ha.ok
  refine ⟨⟨_, pe_un ho pa, fun S ρ σ H Q R hr hw hq => ?_⟩⟩
  refine ka S ρ σ H _ _ hr hw fun t v H1 h1 s1 x1 => ?_
  refine hg (fresh S H) H1 v t Q R x1 h1 fun z v3 H3 h3 s3 x3 => ?_
  exact hq z v3 H3 h3 (s1.trans s3) (shr_dn x3 s1)
/-! tests -/
def asB : T → (Bool → Prop) → Prop := fun t R => match t with
  | .bl b => R b
  | _ => False
def wT (w : List Ent → (T → Prop) → Prop) : List Ent → (Bool → Prop) → Prop := fun ρ R => w ρ fun t => asB t R
theorem asB_ok {K : PySem.W.Frag} {S : Addr → Prop} {H : Hp} {t : T} {v : V} {R : Bool → Prop} (h : Shr K H S t v) (hb : asB t R) : ∃ b, v = .bl b ∧ R b := by
  cases t <;> first | exact hb.elim | skip
  exact ⟨_, (shr_bl h), hb⟩
theorem tpt_cmp {op : CmpOp} {r : R2} {g : F2} (ho : OpR X (compareOp op) r) (hg : OpT X.K r g) (ha : TPE X a wa) (hb : TPE X b wb) (hm : behindInMarks op b = false) : TPT X (.Compare a [op] [b] pos) (wT (w2 g wa wb)) := by
  obtain ⟨ta, pa, ka⟩ := ha.ok
  obtain ⟨tb, pb, kb⟩ := hb.ok
  refine ⟨⟨_, pt_cmpR ho pa pb hm, fun S ρ σ H Q R hr hw hq => two (wa := wa) (wb := wb) ka kb hg hr (R := fun t => asB t R) hw fun t v H' h1 s1 x1 => ?_⟩⟩
  obtain ⟨k, e, h⟩ := asB_ok x1 h1
  exact ⟨k, e, hq k H' h s1⟩
theorem tpt_val (ha : TPE X a wa) (he : ∀ whole, isTrue a X.env whole = (do let v ← whole; standAt a.pos; holding [v] (truthy v)) := by intro _; rfl) : TPT X a (wT wa) := by
  obtain ⟨ta, pa, ka⟩ := ha.ok
  refine ⟨⟨_, pt_val pa he, fun S ρ σ H Q R hr hw hq => ka S ρ σ H _ _ hr hw fun t v H' h1 s1 x1 => ?_⟩⟩
  obtain ⟨k, e, h⟩ := asB_ok x1 h1
  exact ⟨k, e, hq k H' h s1⟩
def wChain (g g' : F2) (wa wb wc : List Ent → (T → Prop) → Prop) : List Ent → (T → Prop) → Prop := fun ρ R => wa ρ fun x => wb ρ fun y => g x y fun z => asB z fun k => if k = true then wc ρ fun u => g' y u R else R (.bl false)
theorem chain_ok {r r' : R2} {g g' : F2} {ta tb tc : TE} (ka : ∀ (S : Addr → Prop) (ρ : List Ent) (σ : St) (H : Hp) (Q : VK) (R : T → Prop), RdS X.K S ρ σ H → wa ρ R → (∀ t v H', R t → Same H H' → Shr X.K H' (fresh S H) t v → Q v H') → ta σ H Q)
    (kb : ∀ (S : Addr → Prop) (ρ : List Ent) (σ : St) (H : Hp) (Q : VK) (R : T → Prop), RdS X.K S ρ σ H → wb ρ R → (∀ t v H', R t → Same H H' → Shr X.K H' (fresh S H) t v → Q v H') → tb σ H Q)
    (kc : ∀ (S : Addr → Prop) (ρ : List Ent) (σ : St) (H : Hp) (Q : VK) (R : T → Prop), RdS X.K S ρ σ H → wc ρ R → (∀ t v H', R t → Same H H' → Shr X.K H' (fresh S H) t v → Q v H') → tc σ H Q)
    (hg : OpT X.K r g) (hg' : OpT X.K r' g') {S : Addr → Prop} {ρ : List Ent} {σ : St} {H : Hp} {Q : VK} {R : T → Prop} (hr : RdS X.K S ρ σ H) (hw : wChain g g' wa wb wc ρ R) (hq : ∀ t v H', R t → Same H H' → Shr X.K H' (fresh S H) t v → Q v H') : tChain r r' ta tb tc σ H Q := by
  refine ka S ρ σ H _ _ hr hw fun t v H1 h1 s1 x1 => ?_
  refine kb (fresh S H) ρ σ H1 _ _ (hr.same s1) h1 fun u v2 H2 h2 s2 x2 => ?_
  refine hg (fresh (fresh S H) H1) H2 v v2 t u _ _ (shr_up x1 s2) x2 h2 fun z v3 H3 h3 s3 x3 => ?_
  obtain ⟨k, e, h⟩ := asB_ok x3 h3
  refine ⟨k, e, ?_⟩
  cases k with
  | true =>
    rw [if_pos rfl] at h ⊢
    refine kc (fresh (fresh (fresh S H) H1) H2) ρ σ H3 _ _ ((((hr.same s1).same s2)).same s3) h fun u4 v4 H4 h4 s4 x4 => ?_
    refine hg' (fresh (fresh (fresh (fresh S H) H1) H2) H3) H4 v2 v4 u u4 Q R (shr_up (shr_up x2 s3) s4) x4 h4 fun z5 v5 H5 h5 s5 x5 => ?_
    exact hq z5 v5 H5 h5 ((((s1.trans s2).trans s3).trans s4).trans s5) (shr_dn (shr_dn (shr_dn (shr_dn x5 s4) s3) s2) s1)
  | false =>
    rw [if_neg Bool.false_ne_true] at h ⊢
    exact hq _ _ _ h ((s1.trans s2).trans s3) (.bl _)
theorem tp_chain {op op' : CmpOp} {r r' : R2} {g g' : F2} (ho : OpR X (compareOp op) r) (ho' : OpR X (compareOp op') r') (hg : OpT X.K r g) (hg' : OpT X.K r' g') (ha : TPE X a wa) (hb : TPE X b wb) (hc : TPE X c wc)
    (hm : lastMarks [op, op'] [b, c] = false := by rfl) : TPE X (.Compare a [op, op'] [b, c] pos) (wChain g g' wa wb wc) := by
  obtain ⟨ta, pa, ka⟩ := ha.ok
  obtain ⟨tb, pb, kb⟩ := hb.ok
  obtain ⟨tc, pc, kc⟩ := hc.ok
  exact ⟨⟨_, pe_chain ho ho' pa pb pc hm, fun S ρ σ H Q R hr hw hq => chain_ok ka kb kc hg hg' hr hw hq⟩⟩
theorem tpt_chain {op op' : CmpOp} {r r' : R2} {g g' : F2} (ho : OpR X (compareOp op) r) (ho' : OpR X (compareOp op') r') (hg : OpT X.K r g) (hg' : OpT X.K r' g') (ha : TPE X a wa) (hb : TPE X b wb) (hc : TPE X c wc)
    (hm : lastMarks [op, op'] [b, c] = false := by rfl) : TPT X (.Compare a [op, op'] [b, c] pos) (wT (wChain g g' wa wb wc)) := by
  obtain ⟨ta, pa, ka⟩ := ha.ok
  obtain ⟨tb, pb, kb⟩ := hb.ok
  obtain ⟨tc, pc, kc⟩ := hc.ok
  refine ⟨⟨_, pt_chain ho ho' pa pb pc hm, fun S ρ σ H Q R hr hw hq => chain_ok (wa := wa) (wb := wb) (wc := wc) ka kb kc hg hg' hr (R := fun t => asB t R) hw fun t v H' h1 s1 x1 => ?_⟩⟩
  obtain ⟨k, e, h⟩ := asB_ok x1 h1
  exact ⟨k, e, hq k H' h s1⟩
end
end TL
set_option Elab.async false
set_option linter.all false
set_option maxRecDepth 100000
namespace TL
open PySem PySem.Spec PyProof.Rows L2

/-! ### what a def promises -/
inductive Par where
  | sh | io (n : Nat)
def entOf : Par → T → Ent
  | .sh, t => .ow 0 t
  | .io n, t => .io n t
inductive Pin : List Par → List T → List V → List Root → Prop
  | nil : Pin [] [] [] []
  | cons {p : Par} {ps : List Par} {t : T} {ts : List T} {v : V} {vs : List V} {F : List Addr} {rs : List Root} : Pin ps ts vs rs → Pin (p :: ps) (t :: ts) (v :: vs) (⟨entOf p t, some v, F⟩ :: rs)
/-- the changed arguments behind a call -/
inductive Pout : List Par → List T → List V → List Root → Prop
  | nil : Pout [] [] [] []
  | sh {ps : List Par} {ts : List T} {v : V} {vs : List V} {rs : List Root} : Pout ps ts vs rs → Pout (.sh :: ps) ts (v :: vs) rs
  | io {n : Nat} {ps : List Par} {t : T} {ts : List T} {v : V} {vs : List V} {F : List Addr} {rs : List Root} : Pout ps ts vs rs → Pout (.io n :: ps) (t :: ts) (v :: vs) (⟨.io n t, some v, F⟩ :: rs)
abbrev FnT := List T → (Nat → T → List T → Prop) → Prop
def callFm (S : Addr → Prop) (H : Hp) (rs : List Root) : Fm := ⟨S, H, foot rs, []⟩
def spT (K : PySem.W.Frag) (ps : List Par) (W : FnT) : Sp := fun vs H Q _ => ∃ (ts : List T) (S : Addr → Prop) (rs : List Root) (R : Nat → T → List T → Prop),
  Pin ps ts vs rs ∧ Good K (callFm S H rs) S rs H ∧ W ts R ∧
  ∀ (n : Nat) (t : T) (outs : List T) (v : V) (H' : Hp) (S' : Addr → Prop) (rs' : List Root) (F0 : List Addr), R n t outs → Pout ps outs vs rs' → Good K (callFm S H rs) S' (rs' ++ [tmp n t v F0]) H' → Q v H'

section
variable {K : PySem.W.Frag} {f : Fm} {S S' : Addr → Prop} {H H' : Hp} {τ τ' ms rs rs' : List Root} {ρ ρ' : List Ent} {σ : St}
theorem Pin.lenV : ∀ {ps : List Par} {ts : List T} {vs : List V} {rs : List Root}, Pin ps ts vs rs → vs.length = ps.length
  | _, _, _, _, .nil => rfl
  | _, _, _, _, .cons h => by rw [List.length_cons, List.length_cons, Pin.lenV h]
theorem Pin.lenR : ∀ {ps : List Par} {ts : List T} {vs : List V} {rs : List Root}, Pin ps ts vs rs → rs.length = vs.length
  | _, _, _, _, .nil => rfl
  | _, _, _, _, .cons h => by rw [List.length_cons, List.length_cons, Pin.lenR h]
theorem Pin.lenT : ∀ {ps : List Par} {ts : List T} {vs : List V} {rs : List Root}, Pin ps ts vs rs → ts.length = ps.length
  | _, _, _, _, .nil => rfl
  | _, _, _, _, .cons h => by rw [List.length_cons, List.length_cons, Pin.lenT h]
theorem Pin.outs : ∀ {ps : List Par} {ts : List T} {vs : List V} {rs : List Root}, Pin ps ts vs rs → rs.map (·.o) = vs.map some
  | _, _, _, _, .nil => rfl
  | _, _, _, _, .cons h => by rw [List.map_cons, List.map_cons, Pin.outs h]
def iniE : List Par → List T → List Ent
  | p :: ps, t :: ts => entOf p t :: iniE ps ts
  | _, _ => []
theorem Pin.ents : ∀ {ps : List Par} {ts : List T} {vs : List V} {rs : List Root}, Pin ps ts vs rs → rs.map (·.e) = iniE ps ts
  | _, _, _, _, .nil => rfl
  | _, _, _, _, .cons h => by rw [List.map_cons, Pin.ents h]; rfl
/-- what the changed parameters hold at the end -/
def outsOf : List Par → List Ent → Option (List T)
  | [], _ => some []
  | .sh :: ps, _ :: ρ => outsOf ps ρ
  | .io n :: ps, .io m t :: ρ => if n = m then (outsOf ps ρ).map (t :: ·) else none
  | _, _ => none
theorem outs_roots : ∀ {ps : List Par} {rs : List Root} {vs : List V} {outs : List T}, outsOf ps (rs.map (·.e)) = some outs → vs.length = ps.length → (∀ (i : Nat) r n t, rs[i]? = some r → r.e = .io n t → r.o = vs[i]?) →
    ∃ (rs' : List Root) (g : Nat → Nat), Pout ps outs vs rs' ∧ (∀ m r, rs'[m]? = some r → rs[g m]? = some r) ∧ (∀ m l, m < rs'.length → l < rs'.length → g m = g l → m = l)
  | [], rs, vs, outs, h, hl, _ => by
    have e : outs = [] := by cases rs <;> (rw [outsOf] at h; exact (Option.some.inj h).symm)
    subst e
    have e : vs = [] := List.eq_nil_of_length_eq_zero hl
    subst e
    exact ⟨[], fun m => m, .nil, fun m r h => by simp at h, fun m l h => by simp at h⟩
  | .sh :: ps, [], vs, outs, h, hl, _ => by simp [outsOf] at h
  | .sh :: ps, r :: rs, [], outs, h, hl, _ => by simp at hl
  | .sh :: ps, r :: rs, v :: vs, outs, h, hl, hv => by
    rw [List.map_cons, outsOf] at h
    obtain ⟨rs', g, h1, h2, h3⟩ := outs_roots h (by simpa using hl) (fun i q n t a b => by
      have := hv (i + 1) q n t (by simpa using a) b
      simpa using this)
    exact ⟨rs', fun m => g m + 1, .sh h1, fun m q e => by simpa using h2 m q e, fun m l a b c => h3 m l a b (Nat.succ.inj c)⟩
  | .io n :: ps, [], vs, outs, h, hl, _ => by simp [outsOf] at h
  | .io n :: ps, r :: rs, [], outs, h, hl, _ => by simp at hl
  | .io n :: ps, ⟨re, ro, rF⟩ :: rs, v :: vs, outs, h, hl, hv => by
    rw [List.map_cons] at h
    cases re with
    | io m t =>
      show ∃ rs' g, _
      rw [outsOf] at h
      by_cases e : n = m
      · subst e
        rw [if_pos rfl] at h
        cases q : outsOf ps (rs.map (·.e)) with
        | none => rw [q] at h; cases h
        | some outs' =>
          rw [q] at h
          have h := (Option.some.inj h).symm
          subst h
          obtain ⟨rs', g, h1, h2, h3⟩ := outs_roots q (by simpa using hl) (fun i q n t a b => by
            have := hv (i + 1) q n t (by simpa using a) b
            simpa using this)
          have e2 := hv 0 _ n t rfl rfl
          have e2 : ro = some v := by simpa using e2
          subst e2
          refine ⟨⟨.io n t, some v, rF⟩ :: rs', fun m => match m with | 0 => 0 | m + 1 => g m + 1, .io h1, fun m q e => ?_, fun m l a b c => ?_⟩
          · cases m with
            | zero => simpa using e
            | succ m => simpa using h2 m q (by simpa using e)
          · cases m with
            | zero =>
              cases l with
              | zero => rfl
              | succ l => simp at c
            | succ m =>
              cases l with
              | zero => simp at c
              | succ l =>
                have := h3 m l (by simpa using a) (by simpa using b) (by simpa using c)
                rw [this]
      · rw [if_neg e] at h; cases h
    | no => rw [outsOf] at h <;> first | cases h | simp
    | ow _ _ => rw [outsOf] at h <;> first | cases h | simp
    | ro _ => rw [outsOf] at h <;> first | cases h | simp
    | al _ _ _ => rw [outsOf] at h <;> first | cases h | simp

/-! ### statements -/
/-- an exception: its class, what its own dict holds -/
structure XT where
  C : Addr
  fs : List (Str × V)
/-- flat values -/
def T.v1 : T → V
  | .bl b => .bl b
  | .int i => .int i
  | .str s => .str s
  | _ => .non
def T.is1 : T → Bool
  | .bl _ => true
  | .int _ => true
  | .str _ => true
  | .non => true
  | _ => false
def ExcAt (x : XT) (cls : Value) (d : Option Addr) (H : Hp) : Prop := cls = .ref x.C ∧ ∃ dd, d = some dd ∧ H dd = some (.xd x.fs)
structure TEnds where
  nx : List Ent → Prop
  rt : Nat → T → List Ent → Prop
  bk : List Ent → Prop := fun _ => False
  ct : List Ent → Prop := fun _ => False
  xc : XT → List Ent → Prop := fun _ _ => False
structure Lk (K : PySem.W.Frag) (f : Fm) (τ : List Root) (De : TEnds) (D : Ends) (W : WX) : Prop where
  nx : ∀ ρ σ H, De.nx ρ → Sta K f τ ρ σ H → D.nx σ H
  rt : ∀ n t ρ σ v F H, De.rt n t ρ → Sta K f (τ ++ [tmp n t v F]) ρ σ H → D.rt v H
  bk : ∀ ρ σ H, De.bk ρ → Sta K f τ ρ σ H → D.bk σ H
  ct : ∀ ρ σ H, De.ct ρ → Sta K f τ ρ σ H → D.ct σ H
  xc : ∀ x ρ σ cls d H, De.xc x ρ → Sta K f τ ρ σ H → ExcAt x cls d H → W cls d σ H
structure TSs (X : Cx) (W : WX) (sts : List Stmt) (w : TEnds → List Ent → Prop) : Prop where
  ok : ∃ tt : TS, PSs X sts tt ∧ ∀ (f : Fm) (τ : List Root) (ρ : List Ent) (σ : St) (H : Hp) (De : TEnds) (D : Ends), Sta X.K f τ ρ σ H → Lk X.K f τ De D W → w De ρ → tt D σ H
structure TS1 (X : Cx) (W : WX) (st : Stmt) (w : TEnds → List Ent → Prop) : Prop where
  ok : ∃ tt : TS, PS X st tt ∧ ∀ (f : Fm) (τ : List Root) (ρ : List Ent) (σ : St) (H : Hp) (De : TEnds) (D : Ends), Sta X.K f τ ρ σ H → Lk X.K f τ De D W → w De ρ → tt D σ H
/-- the slots at the entry -/
def rho0 (ps : List Par) (ts : List T) (n : Nat) : List Ent := iniE ps ts ++ List.replicate (n - ts.length) .no
def endsOf (ps : List Par) (R : Nat → T → List T → Prop) : TEnds where
  nx := fun ρ => match outsOf ps ρ with
    | some o => R 0 .non o
    | none => False
  rt := fun n t ρ => match outsOf ps ρ with
    | some o => R n t o
    | none => False
end
section
variable {P : Program} {w : World} {K : PySem.W.Frag} {mg : Str → Option Value} {base : Heap}
/-- THE RULE for a def -/
theorem fnT {x qual : Str} {st : Stmt} {fa : Addr} {fd : FuncData} {N ps : List Str} {k : Nat} {pars : List Par} {W : FnT} (F : Fun K x qual st fa fd) (S : FnScope N ps (defScope st)) (hl : pars.length = ps.length)
    (hbody : ∀ (X : Cx) (cdv : Value) (A : Around) (outer : List Env) (s : Shared) (H : Hp) (E : XK), X = (cxOf CX0 P w K mg base N qual (defScope st) fa cdv A outer s H E).nox → Room k X.A → ∃ u, TSs X (fun _ _ _ _ => False) (defBody st) u ∧ ∀ ts R, W ts R → ts.length = pars.length → u (endsOf pars R) (rho0 pars ts N.length)) :
    FnOk P w K mg base CX0 (k + 1) fa fd ps (spT K pars W) := by
  refine F.ok S (fun vs H Q E h => ?_) (fun cdv A outer s H vs Q E hr h => ?_)
  · obtain ⟨ts, S0, rs, R, h1, _⟩ := h
    rw [h1.lenV, hl]
  · obtain ⟨ts, S0, rs, R, h1, h2, h3, h4⟩ := h
    obtain ⟨u, hu, hW⟩ := hbody _ cdv A outer s H E rfl hr
    obtain ⟨tt, hp, ht⟩ := hu.ok
    refine ⟨tt, hp, ?_⟩
    have hw := hW ts R h3 h1.lenT
    have hN : ps.length ≤ N.length := by have := congrArg List.length S.pre; rw [List.length_take] at this; omega
    let f : Fm := ⟨S0, H, foot rs, L2.start N vs⟩
    have hlen1 : rs.length = ts.length := by rw [h1.lenR, h1.lenV, h1.lenT]
    have hlen2 : vs.length = ts.length := by rw [h1.lenV, h1.lenT]
    have sta : Sta K f [] (rho0 pars ts N.length) (L2.start N vs) H := by
      refine ⟨S0, rs ++ List.replicate (N.length - ts.length) ⟨.no, none, []⟩, ⟨?_, ?_, ?_, fun k' j i t h => ?_, fun i n t _ => rfl, fun r h => nomatch h⟩⟩
      · rw [List.map_append, h1.ents, List.map_replicate]; rfl
      · rw [List.map_append, h1.outs, List.map_replicate]
        unfold L2.start
        rw [hlen2]
      · rw [List.append_nil]
        have G := h2
        refine ⟨fun m r e => ?_, fun m l r q e1 e2 ne a ha hb => ?_, G.trk, G.fr, G.src⟩
        · by_cases hm : m < rs.length
          · rw [List.getElem?_append_left hm] at e
            exact G.slot m r e
          · rw [List.getElem?_append_right (by omega), List.getElem?_replicate] at e
            split at e
            · have e := (Option.some.inj e).symm
              subst e
              exact ⟨rfl, List.nodup_nil, fun a z => nomatch z⟩
            · cases e
        · by_cases hm : m < rs.length
          · rw [List.getElem?_append_left hm] at e1
            by_cases hl : l < rs.length
            · rw [List.getElem?_append_left hl] at e2
              exact G.dj m l r q e1 e2 ne a ha hb
            · rw [List.getElem?_append_right (by omega), List.getElem?_replicate] at e2
              split at e2
              · have e2 := (Option.some.inj e2).symm
                subst e2
                cases hb
              · cases e2
          · rw [List.getElem?_append_right (by omega), List.getElem?_replicate] at e1
            split at e1
            · have e1 := (Option.some.inj e1).symm
              subst e1
              cases ha
            · cases e1
      · exfalso
        have mem := List.mem_of_getElem? h
        unfold rho0 at mem
        rcases List.mem_append.mp mem with mem | mem
        · rw [← h1.ents] at mem
          obtain ⟨r, hr, e⟩ := List.mem_map.mp mem
          have key : ∀ {ps : List Par} {ts : List T} {vs : List V} {rs : List Root}, Pin ps ts vs rs → ∀ r ∈ rs, r.e ≠ .al j i t := by
            intro ps ts vs rs hp
            induction hp with
            | nil => intro r h; cases h
            | @cons p _ _ _ _ _ _ _ _ ih =>
              intro r h
              rcases List.mem_cons.mp h with rfl | h
              · cases p <;> exact fun z => nomatch z
              · exact ih r h
          exact key h1 r hr e
        · rw [List.mem_replicate] at mem
          cases mem.2
    have fin : ∀ n t ρ σ v F H', (match outsOf pars ρ with | some o => R n t o | none => False) → Sta K f ([] ++ [tmp n t v F]) ρ σ H' → Q v H' := by
      intro n t ρ σ v F H' hR hs
      cases q : outsOf pars ρ with
      | none => rw [q] at hR; exact hR.elim
      | some outs =>
        rw [q] at hR
        obtain ⟨S', rsF, s'⟩ := hs
        rw [← s'.e] at q
        obtain ⟨rs', g, p1, p2, p3⟩ := outs_roots (vs := vs) q h1.lenV (fun i r n t a b => by
          have e1 : ρ[i]? = some (.io n t) := by rw [← s'.e, List.getElem?_map, a, ← b]; rfl
          have e2 := s'.io i n t e1
          have e3 : σ[i]? = some r.o := by rw [← s'.o, List.getElem?_map, a]; rfl
          rw [e3] at e2
          have e4 : (L2.start N vs)[i]? = some r.o := e2.symm
          have hio : ∃ (l : Nat), i < pars.length := ⟨0, by
            -- an io slot is a parameter
            rcases Nat.lt_or_ge i pars.length with z | z
            · exact z
            · exfalso
              obtain ⟨v', hv', _⟩ := (s'.good.slot i r (getElem?_app a)).1.own (n := n) (t := t) (by rw [b]; rfl)
              unfold L2.start at e4
              rw [List.getElem?_append_right (by rw [List.length_map, h1.lenV]; exact z), List.getElem?_replicate] at e4
              split at e4
              · rw [hv'] at e4; cases e4
              · cases e4⟩
          obtain ⟨_, hi⟩ := hio
          unfold L2.start at e4
          rw [List.getElem?_append_left (by rw [List.length_map, h1.lenV]; exact hi), List.getElem?_map] at e4
          cases q : vs[i]? with
          | none => rw [q] at e4; cases e4
          | some x => rw [q] at e4; exact (Option.some.inj e4).symm)
        refine h4 n t outs v H' S' rs' F hR p1 ?_
        have G := s'.good
        have Gp : Good K f S' (rs' ++ [tmp n t v F]) H' := by
          refine G.pick (fun m => if m < rs'.length then g m else rsF.length) (fun m r e => ?_) fun m l r q e1 e2 _ _ z => ?_
          · right
            by_cases hm : m < rs'.length
            · rw [if_pos hm]
              rw [List.getElem?_append_left hm] at e
              exact getElem?_app (p2 m r e)
            · rw [if_neg hm]
              have hl := (List.getElem?_eq_some_iff.mp e).1
              rw [List.length_append, List.length_singleton] at hl
              have em : m = rs'.length := by omega
              rw [em, List.getElem?_append_right (Nat.le_refl _), Nat.sub_self] at e
              rw [List.getElem?_append_right (Nat.le_refl _), Nat.sub_self]
              exact e
          · have l1 := (List.getElem?_eq_some_iff.mp e1).1
            have l2 := (List.getElem?_eq_some_iff.mp e2).1
            rw [List.length_append, List.length_singleton] at l1 l2
            have gl : ∀ m, m < rs'.length → g m < rsF.length := fun m hm => (List.getElem?_eq_some_iff.mp (p2 m _ (List.getElem?_eq_getElem hm))).1
            by_cases c1 : m < rs'.length
            · by_cases c2 : l < rs'.length
              · rw [if_pos c1, if_pos c2] at z; exact p3 m l c1 c2 z
              · rw [if_pos c1, if_neg c2] at z; have := gl m c1; omega
            · by_cases c2 : l < rs'.length
              · rw [if_neg c1, if_pos c2] at z; have := gl l c2; omega
              · omega
        exact ⟨Gp.slot, Gp.dj, Gp.trk, Gp.fr, Gp.src⟩
    refine ht f [] _ _ H (endsOf pars R) _ sta ⟨fun ρ σ H' h s => ?_, fun n t ρ σ v F H' h s => fin n t ρ σ v F H' h s, fun _ _ _ h => h.elim, fun _ _ _ h => h.elim, fun _ _ _ _ _ _ h => h.elim⟩ hw
    obtain ⟨S', rsF, s'⟩ := s
    exact fin 0 .non ρ σ .non [] H' h ⟨S', rsF, s'.pushS .non⟩
end
end TL
set_option Elab.async false
set_option linter.all false
set_option maxRecDepth 100000
namespace TL
open PySem PySem.Spec PyProof.Rows L2

/-! ### calls of defs: pure -/
section
variable {X : Cx} {e a b c : Expr} {es : List Expr} {pos p : Pos} {w wa wb wc : List Ent → (T → Prop) → Prop} {wA : List Ent → (List T → Prop) → Prop}
def wNil : List Ent → (List T → Prop) → Prop := fun _ R => R []
def wCons (wa : List Ent → (T → Prop) → Prop) (wA : List Ent → (List T → Prop) → Prop) : List Ent → (List T → Prop) → Prop := fun ρ R => wa ρ fun x => wA ρ fun xs => R (x :: xs)
theorem tpa_nil : TPA X [] wNil := ⟨⟨_, pa_nil, fun S ρ σ H Q R _ hw hq => hq [] [] H hw (Same.refl H) .nil⟩⟩
theorem tpa_cons (ha : TPE X e wa) (hr : TPA X es wA) (hs : starEach (e :: es) X.env = (false, eval e X.env) :: starEach es X.env := by rfl) : TPA X (e :: es) (wCons wa wA) := by
  obtain ⟨ta, pa, ka⟩ := ha.ok
  obtain ⟨tb, pb, kb⟩ := hr.ok
  refine ⟨⟨_, pa_cons pa pb hs, fun S ρ σ H Q R hr hw hq => ?_⟩⟩
  refine ka S ρ σ H _ _ hr hw fun t v H1 h1 s1 x1 => ?_
  refine kb (fresh S H) ρ σ H1 _ _ (hr.same s1) h1 fun ts vs H2 h2 s2 x2 => ?_
  exact hq (t :: ts) (v :: vs) H2 h2 (s1.trans s2) (Owns.mono (fun _ z => fresh_trans s1 z) (Shrs.cons (shr_up x1 s2) x2))
/-- all parameters are only read -/
def allSh (n : Nat) : List Par := List.replicate n .sh
def shRoots : List T → List V → List Root
  | t :: ts, v :: vs => tmp 0 t v [] :: shRoots ts vs
  | _, _ => []
theorem shRoots_pin {K : PySem.W.Frag} {S : Addr → Prop} {H : Hp} : ∀ {ts : List T} {vs : List V}, Shrs K H S ts vs → Pin (allSh ts.length) ts vs (shRoots ts vs)
  | [], vs, h => by cases h; exact .nil
  | t :: ts, vs, h => by
    obtain ⟨v, r, rfl, a, b⟩ := h.uncons
    exact .cons (p := .sh) (shRoots_pin b)
theorem shRoots_foot : ∀ {ts : List T} {vs : List V}, foot (shRoots ts vs) = []
  | [], _ => rfl
  | _ :: _, [] => rfl
  | t :: ts, v :: vs => by
    show [] ++ foot (shRoots ts vs) = []
    rw [shRoots_foot]; rfl
theorem shRoots_get {K : PySem.W.Frag} {S : Addr → Prop} {H : Hp} : ∀ {ts : List T} {vs : List V}, Shrs K H S ts vs → ∀ (k : Nat) r, (shRoots ts vs)[k]? = some r → SlotR K H S r.e r.o r.F ∧ r.F = []
  | [], vs, h, k, r, e => by
    cases vs <;> (rw [shRoots] at e; simp at e)
    all_goals simp
  | t :: ts, vs, h, k, r, e => by
    obtain ⟨v, q, rfl, a, b⟩ := h.uncons
    cases k with
    | zero =>
      have e := Option.some.inj e
      subst e
      exact ⟨⟨v, rfl, a⟩, rfl⟩
    | succ k => exact shRoots_get b k r (by simpa [shRoots] using e)
theorem good_sh {K : PySem.W.Frag} {S : Addr → Prop} {H : Hp} {ts : List T} {vs : List V} (h : Shrs K H S ts vs) (ht : ∀ a, S a → H a ≠ none) : Good K (callFm S H (shRoots ts vs)) S (shRoots ts vs) H where
  slot := fun k r e => by
    obtain ⟨a, b⟩ := shRoots_get h k r e
    exact ⟨a, by rw [b]; exact List.nodup_nil, fun x hx => by rw [b] at hx; cases hx⟩
  dj := fun k l r q e1 e2 ne a ha => by
    rw [(shRoots_get h k r e1).2] at ha; cases ha
  trk := ht
  fr := fun a o h1 _ => h1
  src := fun a h => .inl h
theorem Pout.sh0 : ∀ {n : Nat} {outs : List T} {vs : List V} {rs : List Root}, Pout (allSh n) outs vs rs → outs = [] ∧ rs = []
  | 0, _, _, _, .nil => ⟨rfl, rfl⟩
  | n + 1, _, _, _, h => by
    cases h with
    | sh h => exact Pout.sh0 h
/-- the call of a def that changes nothing -/
theorem spT_pure {K : PySem.W.Frag} {n : Nat} {W : FnT} {S : Addr → Prop} {H : Hp} {ts : List T} {vs : List V} {Q : VK} {E : XK} {R : Nat → T → Prop} (h : Shrs K H S ts vs) (hn : n = ts.length) (hW : W ts fun m t _ => R m t)
    (hq : ∀ m t v H' S' F, R m t → Same H H' → Own K H' S' m t v F → (∀ a, S' a → fresh S H a ∧ H' a ≠ none) → (∀ a ∈ F, H a = none) → F.Nodup → (∀ a ∈ F, ¬ S' a) → Q v H') : spT K (allSh n) W vs H Q E := by
  subst hn
  have h' : Shrs K H (fun a => S a ∧ H a ≠ none) ts vs := Owns.trk h
  refine ⟨ts, _, _, fun m t _ => R m t, shRoots_pin h', good_sh h' (fun a z => z.2), hW, fun m t outs v H' S' rs' F0 h1 h2 G => ?_⟩
  obtain ⟨_, rfl⟩ := h2.sh0
  have hs : Same H H' := fun a o e => G.fr a o e (by show a ∉ foot _; rw [shRoots_foot]; exact fun z => nomatch z)
  obtain ⟨⟨v', e, own⟩, nd, q⟩ := G.slot 0 _ rfl
  have e := Option.some.inj e
  subst e
  refine hq m t v H' S' F0 h1 hs own (fun a ha => ⟨?_, G.trk a ha⟩) (fun a ha => ?_) nd fun a ha => (q a ha).1
  · rcases G.src a ha with z | z | z
    · exact .inl z.1
    · exact .inr z
    · have z : a ∈ foot (shRoots ts vs) := z
      rw [shRoots_foot] at z; cases z
  · rcases (q a ha).2 with z | z
    · exact z
    · have z : a ∈ foot (shRoots ts vs) := z
      rw [shRoots_foot] at z; cases z
def wCallP (n : Nat) (W : FnT) (wA : List Ent → (List T → Prop) → Prop) : List Ent → (T → Prop) → Prop := fun ρ R => wA ρ fun ts => ts.length = n ∧ W ts fun _ t _ => R t
theorem tp_call {x : Str} {fa : Addr} {fd : FuncData} {qs : List Str} {k n : Nat} {W : FnT} (F : FnOk X.prog X.w X.K X.mg X.base CX0 k fa fd qs (spT X.K (allSh n) W)) (hr : Room k X.A) (hg : Gl X x) (hm : X.mg x = some (.ref fa)) (hk : PySem.W.keepIn X.K (.ref fa) = true) (hb : Binds X.K fd qs [])
    (ha : TPA X (e :: es) wA) (hdb : (x == ("__debug__" : Str)) = false := by decide) (he : starEach (e :: es) X.env = (false, eval e X.env) :: starEach es X.env := by rfl) (hpl : (backTo pos (starEach es X.env)).any (·.1) = false := by rfl) :
    TPE X (.Call (.Name x p) (e :: es) [] pos) (wCallP n W wA) := by
  obtain ⟨ta, pa, ka⟩ := ha.ok
  refine ⟨⟨_, pe_call F hr hg hm hk hb .nil pass0 pa hdb he hpl, fun S ρ σ H Q R hr hw hq => ?_⟩⟩
  refine ka S ρ σ H _ _ hr hw fun ts vs H1 h1 s1 x1 => ?_
  rw [List.append_nil]
  refine spT_pure x1 h1.1.symm h1.2 fun m t v H2 S' F0 h2 s2 own hS hF nd hd => ?_
  refine hq t v H2 h2 (s1.trans s2) (own.shr (fun a z => fresh_trans s1 (hS a z).1) fun a z => ?_)
  exact .inr (s1.free (hF a z))
/-! ### built-in calls by values -/
def wCa (g : List T → (T → Prop) → Prop) (wA : List Ent → (List T → Prop) → Prop) : List Ent → (T → Prop) → Prop := fun ρ R => wA ρ fun ts => g ts R
theorem tp_callB {x : Str} {id : String} {r : List V → Hp → VK → Prop} {g : List T → (T → Prop) → Prop} (hc : CallR X (.builtin id) r) (hgv : CaT X.K r g) (hg : Gl X x) (hm : X.mg x = none) (hv : bootBuiltins x = some (.builtin id)) (ha : TPA X (e :: es) wA) (hn : x ≠ "__name__" := by decide) (hdb : (x == ("__debug__" : Str)) = false := by decide)
    (he : starEach (e :: es) X.env = (false, eval e X.env) :: starEach es X.env := by rfl) (hpl : (backTo pos (starEach es X.env)).any (·.1) = false := by rfl) : TPE X (.Call (.Name x p) (e :: es) [] pos) (wCa g wA) := by
  obtain ⟨ta, pa, ka⟩ := ha.ok
  refine ⟨⟨_, pe_callB hc hg hm hv pa hn hdb he hpl, fun S ρ σ H Q R hr hw hq => ?_⟩⟩
  refine ka S ρ σ H _ _ hr hw fun ts vs H1 h1 s1 x1 => ?_
  exact hgv (fresh S H) H1 vs ts Q R x1 h1 fun z v H2 h2 s2 x2 => hq z v H2 h2 (s1.trans s2) (shr_dn x2 s1)
theorem tp_callTy {x : Str} {id : String} {r : List V → Hp → VK → Prop} {g : List T → (T → Prop) → Prop} (hc : CallR X (.type id) r) (hgv : CaT X.K r g) (hg : Gl X x) (hm : X.mg x = none) (hv : bootBuiltins x = some (.type id)) (ha : TPA X (e :: es) wA) (hn : x ≠ "__name__" := by decide) (hdb : (x == ("__debug__" : Str)) = false := by decide)
    (he : starEach (e :: es) X.env = (false, eval e X.env) :: starEach es X.env := by rfl) (hpl : (backTo pos (starEach es X.env)).any (·.1) = false := by rfl) : TPE X (.Call (.Name x p) (e :: es) [] pos) (wCa g wA) := by
  obtain ⟨ta, pa, ka⟩ := ha.ok
  refine ⟨⟨_, pe_callTy hc hg hm hv pa hn hdb he hpl, fun S ρ σ H Q R hr hw hq => ?_⟩⟩
  refine ka S ρ σ H _ _ hr hw fun ts vs H1 h1 s1 x1 => ?_
  exact hgv (fresh S H) H1 vs ts Q R x1 h1 fun z v H2 h2 s2 x2 => hq z v H2 h2 (s1.trans s2) (shr_dn x2 s1)
section
variable {K : PySem.W.Frag}
theorem shrs1 {S : Addr → Prop} {H : Hp} {t : T} {vs : List V} (h : Shrs K H S [t] vs) : ∃ v, vs = [v] ∧ Shr K H S t v := by
  obtain ⟨v, r, rfl, a, b⟩ := h.uncons
  cases b
  exact ⟨v, rfl, a⟩
theorem shrs2 {S : Addr → Prop} {H : Hp} {t u : T} {vs : List V} (h : Shrs K H S [t, u] vs) : ∃ v v2, vs = [v, v2] ∧ Shr K H S t v ∧ Shr K H S u v2 := by
  obtain ⟨v, r, rfl, a, b⟩ := h.uncons
  obtain ⟨v2, rfl, b2⟩ := shrs1 b
  exact ⟨v, v2, rfl, a, b2⟩
def gLen : List T → (T → Prop) → Prop := fun ts R => match ts with
  | [.nd .lst us] => R (.int us.length)
  | [.tup us] => R (.int us.length)
  | [.scr ns] => R (.int ns.length)
  | _ => False
theorem caT_len : CaT K (fun xs H Q => ∃ p ys, xs = [.ref p] ∧ (SqL K H p ys ∨ SqT K H p ys) ∧ Q (.int ys.length) H) gLen := by
  intro S H xs ts Q R h hg hq
  cases ts with
  | nil => exact hg.elim
  | cons t ts =>
    cases ts with
    | cons _ _ => cases t using T.cs <;> exact hg.elim
    | nil =>
      obtain ⟨v, rfl, a⟩ := shrs1 h
      cases t using T.cs <;> first | exact hg.elim | skip
      · obtain ⟨p, vs, rfl, q, r⟩ := shr_tup a
        refine ⟨p, vs, rfl, .inr q, hq _ _ _ hg (Same.refl H) ?_⟩
        rw [r.length]; exact .int _
      · obtain ⟨p, vs, rfl, q, r⟩ := shr_lst a
        refine ⟨p, vs, rfl, .inl q.sq, hq _ _ _ hg (Same.refl H) ?_⟩
        rw [r.length]; exact .int _
      · obtain ⟨p, rfl, q⟩ := shr_scr a
        refine ⟨p, _, rfl, .inl q.sq, hq _ _ _ hg (Same.refl H) ?_⟩
        rw [List.length_map]; exact .int _
def gInts (g : List Int → (T → Prop) → Prop) : List T → (T → Prop) → Prop := fun ts R => match ts with
  | [.nd .lst us] => ∃ is, us = is.map T.int ∧ g is R
  | _ => False
theorem gInts_inv {g : List Int → (T → Prop) → Prop} {S : Addr → Prop} {H : Hp} {ts : List T} {xs : List V} {R : T → Prop} (h : Shrs K H S ts xs) (hg : gInts g ts R) : ∃ a is, xs = [.ref a] ∧ SqL K H a (is.map V.int) ∧ g is R := by
  cases ts with
  | nil => exact hg.elim
  | cons t ts =>
    cases ts with
    | cons _ _ => cases t using T.cs <;> exact hg.elim
    | nil =>
      obtain ⟨v, rfl, a⟩ := shrs1 h
      cases t using T.cs <;> first | exact hg.elim | skip
      obtain ⟨is, rfl, g2⟩ := hg
      obtain ⟨p, vs, rfl, q, r⟩ := shr_lst a
      have e := r.ints
      subst e
      exact ⟨p, is, rfl, q.sq, g2⟩
theorem caT_sum : CaT K (rSum K) (gInts fun is R => R (.int is.sum)) := by
  intro S H xs ts Q R h hg hq
  obtain ⟨a, is, rfl, q, g⟩ := gInts_inv h hg
  exact ⟨a, is, rfl, q, hq _ _ _ g (Same.refl H) (.int _)⟩
theorem caT_max : CaT K (rMax K) (gInts fun is R => 0 < is.length ∧ ∀ m, m ∈ is → (∀ y, y ∈ is → y ≤ m) → R (.int m)) := by
  intro S H xs ts Q R h hg hq
  obtain ⟨a, is, rfl, q, g⟩ := gInts_inv h hg
  exact ⟨a, is, rfl, q, g.1, fun m h1 h2 => hq _ _ _ (g.2 m h1 h2) (Same.refl H) (.int _)⟩
theorem caT_min : CaT K (rMin K) (gInts fun is R => 0 < is.length ∧ ∀ m, m ∈ is → (∀ y, y ∈ is → m ≤ y) → R (.int m)) := by
  intro S H xs ts Q R h hg hq
  obtain ⟨a, is, rfl, q, g⟩ := gInts_inv h hg
  exact ⟨a, is, rfl, q, g.1, fun m h1 h2 => hq _ _ _ (g.2 m h1 h2) (Same.refl H) (.int _)⟩
def gII (g : Int → Int → Int) : List T → (T → Prop) → Prop := fun ts R => match ts with
  | [.int i, .int j] => R (.int (g i j))
  | _ => False
theorem caT_ii {g : Int → Int → Int} : CaT K (fun xs H Q => ∃ i j, xs = [.int i, .int j] ∧ Q (.int (g i j)) H) (gII g) := by
  intro S H xs ts Q R h hg hq
  unfold gII at hg
  split at hg
  · obtain ⟨v, v2, rfl, a, b⟩ := shrs2 h
    exact ⟨_, _, by rw [shr_int a, shr_int b], hq _ _ _ hg (Same.refl H) (.int _)⟩
  · exact hg.elim
def gI (g : Int → Int) : List T → (T → Prop) → Prop := fun ts R => match ts with
  | [.int i] => R (.int (g i))
  | _ => False
theorem caT_i {g : Int → Int} : CaT K (fun xs H Q => ∃ i, xs = [.int i] ∧ Q (.int (g i)) H) (gI g) := by
  intro S H xs ts Q R h hg hq
  unfold gI at hg
  split at hg
  · obtain ⟨v, rfl, a⟩ := shrs1 h
    exact ⟨_, by rw [shr_int a], hq _ _ _ hg (Same.refl H) (.int _)⟩
  · exact hg.elim
def gInt1 : List T → (T → Prop) → Prop := fun ts R => match ts with
  | [.int i] => R (.int i)
  | [.bl k] => R (.int (if k then 1 else 0))
  | _ => False
theorem caT_int1 : CaT K (fun xs H Q => (∃ i, xs = [.int i] ∧ Q (.int i) H) ∨ ∃ k, xs = [.bl k] ∧ Q (.int (if k then 1 else 0)) H) gInt1 := by
  intro S H xs ts Q R h hg hq
  unfold gInt1 at hg
  split at hg
  · obtain ⟨v, rfl, a⟩ := shrs1 h
    exact .inl ⟨_, by rw [shr_int a], hq _ _ _ hg (Same.refl H) (.int _)⟩
  · obtain ⟨v, rfl, a⟩ := shrs1 h
    exact .inr ⟨_, by rw [shr_bl a], hq _ _ _ hg (Same.refl H) (.int _)⟩
  · exact hg.elim
/-! ### items -/
def gIx : F2 := fun t u R => match t, u with
  | .nd .lst ts, .int i => match atI ts i with
    | some x => R x
    | none => False
  | .tup ts, .int i => match atI ts i with
    | some x => R x
    | none => False
  | .scr ns, .int i => match atI ns i with
    | some x => R (.int x)
    | none => False
  | _, _ => False
theorem shrs_at {S : Addr → Prop} {H : Hp} {ts : List T} {vs : List V} {i : Int} {t : T} (h : Shrs K H S ts vs) (e : atI ts i = some t) : ∃ v, atI vs i = some v ∧ Shr K H S t v := by
  unfold atI at e ⊢
  rw [← h.length]
  cases q : ixN ts.length i with
  | none => rw [q] at e; cases e
  | some j =>
    rw [q] at e
    exact h.get e
theorem at_map {α β : Type} {f : α → β} {xs : List α} {i : Int} {x : α} (e : atI xs i = some x) : atI (xs.map f) i = some (f x) := by
  unfold atI at e ⊢
  rw [List.length_map]
  cases q : ixN xs.length i with
  | none => rw [q] at e; cases e
  | some j =>
    rw [q] at e
    show (xs.map f)[j]? = _
    rw [List.getElem?_map, show xs[j]? = some x from e]; rfl
theorem ixT : OpT K (rIx K) gIx := by
  intro S H x y t u Q R h1 h2 hg hq
  cases t using T.cs <;> first | exact hg.elim | skip
  · cases u using T.cs <;> first | exact hg.elim | skip
    obtain ⟨p, vs, rfl, q, r⟩ := shr_tup h1
    rw [shr_int h2]
    simp only [gIx] at hg
    split at hg
    · rename_i e
      obtain ⟨v, e2, r2⟩ := shrs_at r e
      exact .inr (.inl ⟨p, vs, _, v, rfl, rfl, q, e2, hq _ _ _ hg (Same.refl H) (r2.mono fun _ => .inl)⟩)
    · exact hg.elim
  · cases u using T.cs <;> first | exact hg.elim | skip
    obtain ⟨p, vs, rfl, q, r⟩ := shr_lst h1
    rw [shr_int h2]
    simp only [gIx] at hg
    split at hg
    · rename_i e
      obtain ⟨v, e2, r2⟩ := shrs_at r e
      exact .inl ⟨p, vs, _, v, rfl, rfl, q.sq, e2, hq _ _ _ hg (Same.refl H) (r2.mono fun _ => .inl)⟩
    · exact hg.elim
  · cases u using T.cs <;> first | exact hg.elim | skip
    obtain ⟨p, rfl, q⟩ := shr_scr h1
    rw [shr_int h2]
    simp only [gIx] at hg
    split at hg
    · rename_i e
      exact .inl ⟨p, _, _, _, rfl, rfl, q.sq, at_map e, hq _ _ _ hg (Same.refl H) (.int _)⟩
    · exact hg.elim
end
theorem tp_ix (ha : TPE X a wa) (hb : TPE X b wb) (hs : PlainIx b) : TPE X (.Subscript a b pos) (w2 gIx wa wb) := by
  obtain ⟨ta, pa, ka⟩ := ha.ok
  obtain ⟨tb, pb, kb⟩ := hb.ok
  exact ⟨⟨_, pe_ix ix_seq pa pb hs, fun S ρ σ H Q R hr hw hq => two ka kb ixT hr hw hq⟩⟩
/-! ### and, or, not, if-else -/
variable {wt wt2 : List Ent → (Bool → Prop) → Prop} {rest : List Expr}
def wAnd (w1 w2 : List Ent → (Bool → Prop) → Prop) : List Ent → (Bool → Prop) → Prop := fun ρ R => w1 ρ fun b => if b = true then w2 ρ R else R false
def wOr (w1 w2 : List Ent → (Bool → Prop) → Prop) : List Ent → (Bool → Prop) → Prop := fun ρ R => w1 ρ fun b => if b = true then R true else w2 ρ R
def wNot (w1 : List Ent → (Bool → Prop) → Prop) : List Ent → (Bool → Prop) → Prop := fun ρ R => w1 ρ fun b => R (!b)
theorem TPW.pt (h : TPW X e wt) : TPT X e wt := by
  obtain ⟨ta, pa, ka⟩ := h.ok
  exact ⟨⟨_, pa.pt, ka⟩⟩
theorem tpw_and1 (ha : TPT X a wt) : TPW X (.BoolOp .And [a] pos) wt := by
  obtain ⟨ta, pa, ka⟩ := ha.ok
  exact ⟨⟨_, pw_and1 pa, ka⟩⟩
theorem tpw_or1 (ha : TPT X a wt) : TPW X (.BoolOp .Or [a] pos) wt := by
  obtain ⟨ta, pa, ka⟩ := ha.ok
  exact ⟨⟨_, pw_or1 pa, ka⟩⟩
theorem tpw_and (ha : TPT X a wt) (hb : TPW X (.BoolOp .And (b :: rest) pos) wt2) : TPW X (.BoolOp .And (a :: b :: rest) pos) (wAnd wt wt2) := by
  obtain ⟨ta, pa, ka⟩ := ha.ok
  obtain ⟨tb, pb, kb⟩ := hb.ok
  refine ⟨⟨_, pw_and pa pb, fun S ρ σ H Q R hr hw hq => ?_⟩⟩
  refine ka S ρ σ H _ _ hr hw fun k H1 h1 s1 => ?_
  cases k with
  | true => exact kb (fresh S H) ρ σ H1 _ _ (hr.same s1) h1 fun k2 H2 h2 s2 => hq k2 H2 h2 (s1.trans s2)
  | false => exact hq false H1 h1 s1
theorem tpw_or (ha : TPT X a wt) (hb : TPW X (.BoolOp .Or (b :: rest) pos) wt2) : TPW X (.BoolOp .Or (a :: b :: rest) pos) (wOr wt wt2) := by
  obtain ⟨ta, pa, ka⟩ := ha.ok
  obtain ⟨tb, pb, kb⟩ := hb.ok
  refine ⟨⟨_, pw_or pa pb, fun S ρ σ H Q R hr hw hq => ?_⟩⟩
  refine ka S ρ σ H _ _ hr hw fun k H1 h1 s1 => ?_
  cases k with
  | true => exact hq true H1 h1 s1
  | false => exact kb (fresh S H) ρ σ H1 _ _ (hr.same s1) h1 fun k2 H2 h2 s2 => hq k2 H2 h2 (s1.trans s2)
theorem tpt_not (ha : TPT X a wt) : TPT X (.UnaryOp .Not a pos) (wNot wt) := by
  obtain ⟨ta, pa, ka⟩ := ha.ok
  refine ⟨⟨_, pt_not pa, fun S ρ σ H Q R hr hw hq => ?_⟩⟩
  exact ka S ρ σ H _ _ hr hw fun k H1 h1 s1 => hq (!k) H1 h1 s1
/-- .. as values -/
def wAndV (wa wb : List Ent → (T → Prop) → Prop) : List Ent → (T → Prop) → Prop := fun ρ R => wa ρ fun x => asB x fun b => if b = true then wb ρ R else R (.bl false)
def wOrV (wa wb : List Ent → (T → Prop) → Prop) : List Ent → (T → Prop) → Prop := fun ρ R => wa ρ fun x => asB x fun b => if b = true then R (.bl true) else wb ρ R
def wNotV (wa : List Ent → (T → Prop) → Prop) : List Ent → (T → Prop) → Prop := fun ρ R => wa ρ fun x => asB x fun b => R (.bl (!b))
theorem tp_one {op : BoolOp} (ha : TPE X a wa) : TPE X (.BoolOp op [a] pos) wa := by
  obtain ⟨ta, pa, ka⟩ := ha.ok
  exact ⟨⟨_, pe_one pa, ka⟩⟩
theorem tp_and (ha : TPE X a wa) (hb : TPE X (.BoolOp .And (b :: rest) pos) wb) : TPE X (.BoolOp .And (a :: b :: rest) pos) (wAndV wa wb) := by
  obtain ⟨ta, pa, ka⟩ := ha.ok
  obtain ⟨tb, pb, kb⟩ := hb.ok
  refine ⟨⟨_, pe_and pa pb, fun S ρ σ H Q R hr hw hq => ?_⟩⟩
  refine ka S ρ σ H _ _ hr hw fun t v H1 h1 s1 x1 => ?_
  obtain ⟨k, e, h⟩ := asB_ok x1 h1
  refine ⟨k, e, ?_⟩
  cases k with
  | true => exact kb (fresh S H) ρ σ H1 _ _ (hr.same s1) h fun t2 v2 H2 h2 s2 x2 => hq t2 v2 H2 h2 (s1.trans s2) (shr_dn x2 s1)
  | false => exact hq _ _ H1 h s1 (.bl _)
theorem tp_or (ha : TPE X a wa) (hb : TPE X (.BoolOp .Or (b :: rest) pos) wb) : TPE X (.BoolOp .Or (a :: b :: rest) pos) (wOrV wa wb) := by
  obtain ⟨ta, pa, ka⟩ := ha.ok
  obtain ⟨tb, pb, kb⟩ := hb.ok
  refine ⟨⟨_, pe_or pa pb, fun S ρ σ H Q R hr hw hq => ?_⟩⟩
  refine ka S ρ σ H _ _ hr hw fun t v H1 h1 s1 x1 => ?_
  obtain ⟨k, e, h⟩ := asB_ok x1 h1
  refine ⟨k, e, ?_⟩
  cases k with
  | true => exact hq _ _ H1 h s1 (.bl _)
  | false => exact kb (fresh S H) ρ σ H1 _ _ (hr.same s1) h fun t2 v2 H2 h2 s2 x2 => hq t2 v2 H2 h2 (s1.trans s2) (shr_dn x2 s1)
theorem tp_not (ha : TPE X a wa) : TPE X (.UnaryOp .Not a pos) (wNotV wa) := by
  obtain ⟨ta, pa, ka⟩ := ha.ok
  refine ⟨⟨_, pe_not pa, fun S ρ σ H Q R hr hw hq => ?_⟩⟩
  refine ka S ρ σ H _ _ hr hw fun t v H1 h1 s1 x1 => ?_
  obtain ⟨k, e, h⟩ := asB_ok x1 h1
  exact ⟨k, e, hq _ _ H1 h s1 (.bl _)⟩
def wIf (wt : List Ent → (Bool → Prop) → Prop) (wa wb : List Ent → (T → Prop) → Prop) : List Ent → (T → Prop) → Prop := fun ρ R => wt ρ fun k => if k = true then wa ρ R else wb ρ R
theorem tp_if (hc : TPT X c wt) (ha : TPE X a wa) (hb : TPE X b wb) : TPE X (.IfExp c a b pos) (wIf wt wa wb) := by
  obtain ⟨tc, pc, kc⟩ := hc.ok
  obtain ⟨ta, pa, ka⟩ := ha.ok
  obtain ⟨tb, pb, kb⟩ := hb.ok
  refine ⟨⟨_, pe_ifExp pc pa pb, fun S ρ σ H Q R hr hw hq => ?_⟩⟩
  refine kc S ρ σ H _ _ hr hw fun k H1 h1 s1 => ?_
  cases k with
  | true => exact ka (fresh S H) ρ σ H1 _ _ (hr.same s1) h1 fun t2 v2 H2 h2 s2 x2 => hq t2 v2 H2 h2 (s1.trans s2) (shr_dn x2 s1)
  | false => exact kb (fresh S H) ρ σ H1 _ _ (hr.same s1) h1 fun t2 v2 H2 h2 s2 x2 => hq t2 v2 H2 h2 (s1.trans s2) (shr_dn x2 s1)
end
end TL
set_option Elab.async false
set_option linter.all false
set_option maxRecDepth 100000
namespace TL
open PySem PySem.Spec PyProof.Rows L2

/-! ### isinstance of a built-in class -/
inductive TyN where
  | int | bool | str | list | tup | dict
def TyN.nm : TyN → String
  | .int => "int"
  | .bool => "bool"
  | .str => "str"
  | .list => "list"
  | .tup => "tuple"
  | .dict => "dict"
def isT : TyN → T → Bool
  | .int, .int _ => true
  | .int, .bl _ => true
  | .bool, .bl _ => true
  | .str, .str _ => true
  | .list, .nd .lst _ => true
  | .list, .scr _ => true
  | .tup, .tup _ => true
  | .dict, .nd (.dK _) _ => true
  | .dict, .nd (.dT _) _ => true
  | _, _ => false
def T.tyn : T → Option String
  | .non => some "NoneType"
  | .bl _ => some "bool"
  | .int _ => some "int"
  | .str _ => some "str"
  | .tup _ => some "tuple"
  | .nd .lst _ => some "list"
  | .scr _ => some "list"
  | .nd _ _ => none
  | .opq _ => none
  | .exc _ _ _ _ => none
theorem kit_isT : ∀ (t : T) (n : String) (ty : TyN), t.tyn = some n → kitB n ty.nm = some (isT ty t) := by
  intro t n ty h
  cases t using T.cs <;> (first | (cases h; done) | skip) <;> (have h := Option.some.inj h; subst h; cases ty <;> first | exact (show kitB _ _ = some true from by decide +kernel) | exact (show kitB _ _ = some false from by decide +kernel))
section
variable {K : PySem.W.Frag} {S : Addr → Prop} {H : Hp}
theorem shr_ty {t : T} {v : V} {n : String} (h : Shr K H S t v) (hn : t.tyn = some n) : TyX K H v (.type n) := by
  cases t using T.cs with
  | non => rw [shr_non h]; cases hn; exact .base .non
  | bl b => rw [shr_bl h]; cases hn; exact .base (.bl b)
  | int i => rw [shr_int h]; cases hn; exact .base (.int i)
  | str x => rw [shr_str h]; cases hn; exact .base (.str x)
  | tup ts =>
    obtain ⟨a, vs, rfl, q, _⟩ := shr_tup h
    cases hn
    rcases q with (q | ⟨o, q⟩) | ⟨o, its, m, q, c, _⟩
    · exact .base (.tup q)
    · exact .fTuple q
    · exact .kTuple q c
  | lst ts =>
    obtain ⟨a, vs, rfl, q, _⟩ := shr_lst h
    cases hn
    exact .base (.lst q.1)
  | dK _ => cases hn
  | dT _ => cases hn
  | ins _ _ _ => cases hn
  | scr ns =>
    obtain ⟨a, rfl, q⟩ := shr_scr h
    cases hn
    rcases q with ⟨o, q⟩ | ⟨o, its, m, q, c, _⟩
    · exact .base (.frz q)
    · exact .kList q c
  | opq _ => cases hn
  | exc _ _ _ _ => cases hn
end
section
variable {X : Cx} {e a b c : Expr} {es : List Expr} {pos p p2 : Pos} {w wa wb wc : List Ent → (T → Prop) → Prop} {wA : List Ent → (List T → Prop) → Prop}
def wIsi (ty : TyN) (wa : List Ent → (T → Prop) → Prop) : List Ent → (T → Prop) → Prop := fun ρ R => wa ρ fun t => t.tyn.isSome = true ∧ R (.bl (isT ty t))
theorem tp_isi {y : Str} (ty : TyN) (hg : Gl X "isinstance") (hm : X.mg "isinstance" = none) (hg2 : Gl X y) (hm2 : X.mg y = none) (hy : bootBuiltins y = some (.type ty.nm)) (ha : TPE X a wa) (hv : bootBuiltins "isinstance" = some (.builtin "isinstance") := by decide +kernel) (hn : y ≠ "__name__" := by decide) (hdb : (y == ("__debug__" : Str)) = false := by decide)
    (he : starEach [a, .Name y p2] X.env = (false, eval a X.env) :: starEach [.Name y p2] X.env := by rfl) (he2 : starEach [.Name y p2] X.env = (false, eval (.Name y p2) X.env) :: starEach [] X.env := by rfl)
    (hpl : (backTo pos (starEach [.Name y p2] X.env)).any (·.1) = false := by rfl) : TPE X (.Call (.Name "isinstance" p) [a, .Name y p2] [] pos) (wIsi ty wa) := by
  obtain ⟨ta, pa, ka⟩ := ha.ok
  refine ⟨⟨_, pe_callB call_isi hg hm hv (pa_cons pa (pa_cons (pe_bltn (v := .ty ty.nm) hg2 hm2 hy rfl hn hdb) pa_nil he2) he) (by decide) (by decide) he hpl, fun S ρ σ H Q R hr hw hq => ?_⟩⟩
  refine ka S ρ σ H _ _ hr hw fun t v H1 h1 s1 x1 => ?_
  obtain ⟨h1, h2⟩ := h1
  cases q : t.tyn with
  | none => rw [q] at h1; cases h1
  | some n => exact ⟨v, .ty ty.nm, .type n, .type ty.nm, isT ty t, rfl, .ty _, shr_ty x1 q, kit_ty (kit_isT t n ty q), hq _ _ H1 h2 s1 (.bl _)⟩
/-! ### displays, slices, joined lists as pure values -/
def wTup (wA : List Ent → (List T → Prop) → Prop) : List Ent → (T → Prop) → Prop := fun ρ R => wA ρ fun ts => ts.length ≤ 1000 ∧ R (.tup ts)
theorem tp_tup {k : Nat} (ha : TPA X es wA) (hl : es.length ≤ 1000 := by decide) : TPE X (.Tuple es k pos) (wTup wA) := by
  obtain ⟨ta, pa, ka⟩ := ha.ok
  refine ⟨⟨_, pe_tup pa, fun S ρ σ H Q R hr hw hq => ?_⟩⟩
  refine ka S ρ σ H _ _ hr hw fun ts vs H1 h1 s1 x1 => ?_
  have hs : ∀ {p : Addr} {o : HO}, H1 p = none → Same H1 (upd H1 p o) := fun hp b o e => by rw [upd_ne (ne_of_none e hp)]; exact e
  refine ⟨Nat.le_of_lt (small1000 (by rw [← x1.length]; exact h1.1)), fun p hp => hq (.tup ts) _ _ h1.2 (s1.trans (hs hp)) ?_⟩
  exact .tup0 (SqT.of upd_same) (Owns.keep (fun _ z => z) x1 (.same (hs hp)))
def wLst (wA : List Ent → (List T → Prop) → Prop) : List Ent → (T → Prop) → Prop := fun ρ R => wA ρ fun ts => ts.length ≤ 1000 ∧ R (.lst ts)
theorem tp_lst (ha : TPA X es wA) : TPE X (.List es pos) (wLst wA) := by
  obtain ⟨ta, pa, ka⟩ := ha.ok
  refine ⟨⟨_, pe_lst pa, fun S ρ σ H Q R hr hw hq => ?_⟩⟩
  refine ka S ρ σ H _ _ hr hw fun ts vs H1 h1 s1 x1 => ?_
  have hs : ∀ {p : Addr} {o : HO}, H1 p = none → Same H1 (upd H1 p o) := fun hp b o e => by rw [upd_ne (ne_of_none e hp)]; exact e
  refine ⟨Nat.le_of_lt (small1000 (by rw [← x1.length]; exact h1.1)), fun p hp => hq (.lst ts) _ _ h1.2 (s1.trans (hs hp)) ?_⟩
  exact .sls ⟨upd_same, .inr (s1.free hp)⟩ (Owns.keep (fun _ z => z) x1 (.same (hs hp)))
def cutT (ts : List T) (lo hi : Option Int) : List T := (ts.drop (HT.sIx ts.length 0 lo)).take (HT.sIx ts.length ts.length hi - HT.sIx ts.length 0 lo)
theorem shrs_cut {K : PySem.W.Frag} {S : Addr → Prop} {H : Hp} {ts : List T} {vs : List V} {lo hi : Option Int} (h : Shrs K H S ts vs) : Shrs K H S (cutT ts lo hi) (cutV vs lo hi) := by
  unfold cutT cutV
  rw [h.length]
  exact (h.drop _).take _
structure TPO (X : Cx) (o : Option Expr) (w : List Ent → (Option Int → Prop) → Prop) : Prop where
  ok : ∃ tt : _, PO X o tt ∧ ∀ (S : Addr → Prop) (ρ : List Ent) (σ : St) (H : Hp) (Q : Option Int → Hp → Prop) (R : Option Int → Prop), RdS X.K S ρ σ H → w ρ R → (∀ i H', R i → Same H H' → Q i H') → tt σ H Q
def oNon : List Ent → (Option Int → Prop) → Prop := fun _ R => R none
theorem tpo_none : TPO X none (oNon) := ⟨⟨_, po_none, fun S ρ σ H Q R _ hw hq => hq none H hw (Same.refl H)⟩⟩
def oSom (wa : List Ent → (T → Prop) → Prop) : List Ent → (Option Int → Prop) → Prop := fun ρ R => wa ρ fun t => match t with | .int i => R (some i) | _ => False
theorem tpo_some (ha : TPE X a wa) : TPO X (some a) (oSom wa) := by
  obtain ⟨ta, pa, ka⟩ := ha.ok
  refine ⟨⟨_, po_some pa, fun S ρ σ H Q R hr hw hq => ?_⟩⟩
  refine ka S ρ σ H _ _ hr hw fun t v H1 h1 s1 x1 => ?_
  cases t using T.cs <;> first | exact h1.elim | skip
  exact ⟨_, shr_int x1, hq _ H1 h1 s1⟩
def wSl (wa : List Ent → (T → Prop) → Prop) (wl wh : List Ent → (Option Int → Prop) → Prop) : List Ent → (List T → Option Int → Option Int → Prop) → Prop := fun ρ R => wa ρ fun t => wl ρ fun lo => wh ρ fun hi => match t with
  | .nd .lst ts => R ts lo hi
  | _ => False
variable {lo hi : Option Expr} {wl wh : List Ent → (Option Int → Prop) → Prop}
def wSlice (wa : List Ent → (T → Prop) → Prop) (wl : List Ent → (Option Int → Prop) → Prop) (wh : List Ent → (Option Int → Prop) → Prop) : List Ent → (T → Prop) → Prop := fun ρ R => wSl wa wl wh ρ fun ts l h => R (.lst (cutT ts l h))
theorem tp_slice (ha : TPE X a wa) (hl : TPO X lo wl) (hh : TPO X hi wh) : TPE X (.Subscript a (.Slice lo hi none p2) pos) (wSlice wa wl wh) := by
  obtain ⟨ta, pa, ka⟩ := ha.ok
  obtain ⟨tl, pl, kl⟩ := hl.ok
  obtain ⟨th, ph, kh⟩ := hh.ok
  refine ⟨⟨_, pe_slice sl_list pa pl ph, fun S ρ σ H Q R hr hw hq => ?_⟩⟩
  refine ka S ρ σ H _ _ hr hw fun t v H1 h1 s1 x1 => ?_
  refine kl (fresh S H) ρ σ H1 _ _ (hr.same s1) h1 fun l H2 h2 s2 => ?_
  refine kh (fresh (fresh S H) H1) ρ σ H2 _ _ ((hr.same s1).same s2) h2 fun h H3 h3 s3 => ?_
  cases t using T.cs <;> first | exact h3.elim | skip
  have s13 := s2.trans s3
  obtain ⟨p0, vs, rfl, q, r⟩ := shr_lst (x1.keep (fun _ z => z) (.same s13))
  have hs : ∀ {p : Addr} {o : HO}, H3 p = none → Same H3 (upd H3 p o) := fun hp b o e => by rw [upd_ne (ne_of_none e hp)]; exact e
  refine ⟨p0, vs, rfl, q.sq, fun p hp => hq _ _ _ h3 ((s1.trans s13).trans (hs hp)) ?_⟩
  exact .sls ⟨upd_same, .inr ((s1.trans s13).free hp)⟩ (Owns.keep (fun _ z => z) (shrs_cut r) (.same (hs hp)))
def gCat : F2 := fun t u R => match t, u with
  | .nd .lst ts, .nd .lst us => ts.length + us.length ≤ 1000000 ∧ R (.lst (ts ++ us))
  | _, _ => False
theorem million : (1000000 : Nat) ≤ sizeLine := by rw [sizeLine_eq]; decide
theorem opT_cat {K : PySem.W.Frag} : OpT K rCat gCat := by
  intro S H x y t u Q R h1 h2 hg hq
  cases t using T.cs <;> first | exact hg.elim | skip
  cases u using T.cs <;> first | exact hg.elim | skip
  obtain ⟨a, vs, rfl, q, r⟩ := shr_lst h1
  obtain ⟨b, ws, rfl, q2, r2⟩ := shr_lst h2
  have hs : ∀ {p : Addr} {o : HO}, H p = none → Same H (upd H p o) := fun hp b o e => by rw [upd_ne (ne_of_none e hp)]; exact e
  refine ⟨a, b, vs, ws, rfl, rfl, q.1, q2.1, by rw [← r.length, ← r2.length]; exact Nat.le_trans hg.1 million, fun p hp => hq _ _ _ hg.2 (hs hp) ?_⟩
  exact .sls ⟨upd_same, .inr hp⟩ ((Owns.keep (fun _ z => z) (r.append r2) (.same (hs hp))).mono fun _ => .inl)
theorem shrs_rep {K : PySem.W.Frag} {S : Addr → Prop} {H : Hp} {ts : List T} {vs : List V} (h : Shrs K H S ts vs) : ∀ n : Nat, Shrs K H S (List.replicate n ts).flatten (List.replicate n vs).flatten
  | 0 => .nil
  | n + 1 => by
    rw [List.replicate_succ, List.replicate_succ, List.flatten_cons, List.flatten_cons]
    exact h.append (shrs_rep h n)
def gRep : F2 := fun t u R => match t, u with
  | .nd .lst ts, .int k => -(2 ^ 63) ≤ k ∧ k < 2 ^ 63 ∧ ts.length * k.toNat ≤ 1000000 ∧ R (.lst (List.replicate k.toNat ts).flatten)
  | _, _ => False
theorem opT_rep {K : PySem.W.Frag} : OpT K rRep gRep := by
  intro S H x y t u Q R h1 h2 hg hq
  cases t using T.cs <;> first | exact hg.elim | skip
  cases u using T.cs <;> first | exact hg.elim | skip
  obtain ⟨a, vs, rfl, q, r⟩ := shr_lst h1
  rw [shr_int h2]
  obtain ⟨g1, g2, g3, g4⟩ := hg
  have hs : ∀ {p : Addr} {o : HO}, H p = none → Same H (upd H p o) := fun hp b o e => by rw [upd_ne (ne_of_none e hp)]; exact e
  refine ⟨a, _, vs, rfl, rfl, q.1, g1, g2, by rw [← r.length]; exact Nat.le_trans g3 million, fun p hp => hq _ _ _ g4 (hs hp) ?_⟩
  exact .sls ⟨upd_same, .inr hp⟩ ((Owns.keep (fun _ z => z) (shrs_rep r _) (.same (hs hp))).mono fun _ => .inl)
def gKids (k : List T → (T → Prop) → Prop) : List T → (T → Prop) → Prop := fun ts R => match ts with
  | [.nd .lst us] => k us R
  | [.tup us] => k us R
  | _ => False
theorem caT_list {K : PySem.W.Frag} : CaT K (fun xs H Q => ∃ p ys, xs = [.ref p] ∧ (SqL K H p ys ∨ SqT K H p ys) ∧ ∀ l, H l = none → Q (.ref l) (upd H l (.lst ys))) (gKids fun us R => R (.lst us)) := by
  intro S H xs ts Q R h hg hq
  have hs : ∀ {p : Addr} {o : HO}, H p = none → Same H (upd H p o) := fun hp b o e => by rw [upd_ne (ne_of_none e hp)]; exact e
  unfold gKids at hg
  split at hg
  · obtain ⟨v, rfl, a⟩ := shrs1 h
    obtain ⟨p, vs, rfl, q, r⟩ := shr_lst a
    exact ⟨p, vs, rfl, .inl q.sq, fun l hl => hq _ _ _ hg (hs hl) (.sls ⟨upd_same, .inr hl⟩ ((Owns.keep (fun _ z => z) r (.same (hs hl))).mono fun _ => .inl))⟩
  · obtain ⟨v, rfl, a⟩ := shrs1 h
    obtain ⟨p, vs, rfl, q, r⟩ := shr_tup a
    exact ⟨p, vs, rfl, .inr q, fun l hl => hq _ _ _ hg (hs hl) (.sls ⟨upd_same, .inr hl⟩ ((Owns.keep (fun _ z => z) r (.same (hs hl))).mono fun _ => .inl))⟩
  · exact hg.elim
end
/-! ### values held -/
section
variable {X : Cx} {e a b c : Expr} {es : List Expr} {pos p p2 : Pos} {w wa wb : List Ent → (T → Prop) → Prop} {v va vb : List Ent → (Nat → T → List Ent → Prop) → Prop}
def vP (w : List Ent → (T → Prop) → Prop) : List Ent → (Nat → T → List Ent → Prop) → Prop := fun ρ R => w ρ fun t => t.flat = true ∧ R 0 t ρ
theorem tv_p (h : TPE X e w) : TVE X e (vP w) := by
  obtain ⟨ta, pa, ka⟩ := h.ok
  refine ⟨⟨ta, pa, fun f τ ρ σ H Q R hs hw hq => ?_⟩⟩
  refine ka _ ρ σ H _ _ hs.rdAll hw fun t v H1 h1 s1 x1 => ?_
  obtain ⟨S, rs, s⟩ := hs.same s1
  exact hq 0 t ρ v [] H1 h1.2 ⟨S, rs, s.pushS ((x1.flat0 h1.1).2 0 S)⟩
def vSh (w : List Ent → (T → Prop) → Prop) : List Ent → (Nat → T → List Ent → Prop) → Prop := fun ρ R => w (shOnly ρ) fun t => R 0 t ρ
theorem tv_sh (h : TPE X e w) : TVE X e (vSh w) := by
  obtain ⟨ta, pa, ka⟩ := h.ok
  refine ⟨⟨ta, pa, fun f τ ρ σ H Q R hs hw hq => ?_⟩⟩
  obtain ⟨S, rs, s⟩ := hs
  refine ka S (shOnly ρ) σ H _ _ s.rdSh hw fun t v H1 h1 s1 x1 => ?_
  exact hq 0 t ρ v [] H1 h1 ⟨_, rs, (s.grow s1).pushS (shr_grown x1)⟩
def wVarV (i : Nat) : List Ent → (Nat → T → List Ent → Prop) → Prop := fun ρ R => match ρ[i]? with
  | some (.ow 0 t) => R 0 t ρ
  | some (.ow (n + 1) t) => R (n + 1) t (setE ρ i .no)
  | _ => False
theorem tv_var (i : Nat) {x : Str} (hN : X.N[i]? = some x := by rfl) (hv : Vis X.env.scope x := by first | exact Or.inl rfl | exact Or.inr (Or.inl rfl) | exact Or.inr (Or.inr rfl)) (hd : (x == ("__debug__" : Str)) = false := by decide)
    (hcd : (x == ("__classdict__" : Str)) = false := by decide) : TVE X (.Name x pos) (wVarV i) := by
  refine ⟨⟨_, pe_var hN hv hd hcd, fun f τ ρ σ H Q R hs hw hq => ?_⟩⟩
  obtain ⟨S, rs, s⟩ := hs
  unfold wVarV at hw
  split at hw
  · rename_i t he
    obtain ⟨v, h1, h2⟩ := s.copyV he
    exact ⟨v, h1, hq 0 t ρ v [] H hw ⟨S, rs, h2⟩⟩
  · rename_i n t he
    obtain ⟨v, F, rs', h1, h2⟩ := s.moveV he
    exact ⟨v, h1, hq (n + 1) t _ v F H hw ⟨S, rs', h2⟩⟩
  · exact hw.elim
def vFit (k : Nat) (v : List Ent → (Nat → T → List Ent → Prop) → Prop) : List Ent → (Nat → T → List Ent → Prop) → Prop := fun ρ R => v ρ fun n t ρ' => fit k n t ∧ R k t ρ'
theorem tv_fit (k : Nat) (h : TVE X e v) : TVE X e (vFit k v) := by
  obtain ⟨ta, pa, ka⟩ := h.ok
  refine ⟨⟨ta, pa, fun f τ ρ σ H Q R hs hw hq => ?_⟩⟩
  refine ka f τ ρ σ H _ _ hs hw fun n t ρ' v F H1 h1 s1 => ?_
  obtain ⟨S, rs, s⟩ := s1
  obtain ⟨F', S', _, s'⟩ := s.fitV h1.1
  exact hq k t ρ' v F' H1 h1.2 ⟨S', rs, s'⟩
variable {ks : List Nat} {k : Nat} {vA : List Ent → (List T → List Ent → Prop) → Prop}
def vaNil : List Ent → (List T → List Ent → Prop) → Prop := fun ρ R => R [] ρ
theorem tva_nil : TVA X [] [] (vaNil) := ⟨⟨_, pa_nil, fun f τ ρ σ H Q R hs hw hq => hq [] ρ [] [] H hw .nil (by rw [List.append_nil]; exact hs)⟩⟩
def vaCons (k : Nat) (v : List Ent → (Nat → T → List Ent → Prop) → Prop) (vA : List Ent → (List T → List Ent → Prop) → Prop) : List Ent → (List T → List Ent → Prop) → Prop := fun ρ R => v ρ fun n t ρ' => fit k n t ∧ vA ρ' fun ts ρ'' => R (t :: ts) ρ''
theorem tva_cons (k : Nat) (ha : TVE X e v) (hr : TVA X ks es vA) (hs : starEach (e :: es) X.env = (false, eval e X.env) :: starEach es X.env := by rfl) :
    TVA X (k :: ks) (e :: es) (vaCons k v vA) := by
  obtain ⟨ta, pa, ka⟩ := (tv_fit k ha).ok
  obtain ⟨tb, pb, kb⟩ := hr.ok
  refine ⟨⟨_, pa_cons pa pb hs, fun f τ ρ σ H Q R hs hw hq => ?_⟩⟩
  refine ka f τ ρ σ H _ (fun n t ρ' => n = k ∧ vA ρ' fun ts ρ'' => R (t :: ts) ρ'') hs ?_ fun n t ρ' v F H1 h1 s1 => ?_
  · have mono : ∀ {ρ : List Ent} {R R' : Nat → T → List Ent → Prop}, (∀ n t ρ, R n t ρ → R' n t ρ) → R = R' ∨ True := fun _ => .inr trivial
    have e : (fun n t ρ' => fit k n t ∧ (fun n t ρ' => n = k ∧ vA ρ' fun ts ρ'' => R (t :: ts) ρ'') k t ρ') = fun n t ρ' => fit k n t ∧ vA ρ' fun ts ρ'' => R (t :: ts) ρ'' := by
      funext n t ρ'
      simp
    show v ρ (fun n t ρ' => fit k n t ∧ (fun n t ρ' => n = k ∧ vA ρ' fun ts ρ'' => R (t :: ts) ρ'') k t ρ')
    rw [e]
    exact hw
  · obtain ⟨rfl, h1⟩ := h1
    refine kb f (τ ++ [tmp n t v F]) ρ' σ H1 _ _ s1 h1 fun ts ρ'' vs ms H2 h2 hm s2 => ?_
    refine hq (t :: ts) ρ'' (v :: vs) (tmp n t v F :: ms) H2 h2 (.cons hm) ?_
    have e : τ ++ [tmp n t v F] ++ ms = τ ++ tmp n t v F :: ms := by simp
    rw [← e]
    exact s2
theorem Tms.lens : ∀ {ks : List Nat} {ts : List T} {vs : List V} {ms : List Root}, Tms ks ts vs ms → vs.length = ks.length ∧ ts.length = ks.length
  | _, _, _, _, .nil => ⟨rfl, rfl⟩
  | _, _, _, _, .cons h => by
    obtain ⟨a, b⟩ := Tms.lens h
    exact ⟨by rw [List.length_cons, List.length_cons, a], by rw [List.length_cons, List.length_cons, b]⟩
def vLst (k : Nat) (vA : List Ent → (List T → List Ent → Prop) → Prop) : List Ent → (Nat → T → List Ent → Prop) → Prop := fun ρ R => vA ρ fun ts ρ' => R (k + 1) (.lst ts) ρ'
theorem tv_lst (k : Nat) (h : TVA X ks es vA) (hk : ∀ m ∈ ks, m = k := by simp) (hl : ks.length ≤ 1000 := by decide) : TVE X (.List es pos) (vLst k vA) := by
  obtain ⟨ta, pa, ka⟩ := h.ok
  refine ⟨⟨_, pe_lst pa, fun f τ ρ σ H Q R hs hw hq => ?_⟩⟩
  refine ka f τ ρ σ H _ _ hs hw fun ts ρ' vs ms H1 h1 hm s1 => ?_
  obtain ⟨S, rs, s⟩ := s1
  refine ⟨Nat.le_of_lt (small1000 (by rw [hm.lens.1]; exact hl)), fun p hp => ?_⟩
  have z := s.join hm hk hp (o := .lst vs) (t := .lst ts) (n := k + 1) (Fp := [p]) (.inr ⟨rfl, .lst, vs, rfl⟩) (fun H' e o => Own.lst e o)
  exact hq (k + 1) (.lst ts) ρ' _ _ _ h1 ⟨S, rs, z⟩
def vTup (k : Nat) (vA : List Ent → (List T → List Ent → Prop) → Prop) : List Ent → (Nat → T → List Ent → Prop) → Prop := fun ρ R => vA ρ fun ts ρ' => R (k + 1) (.tup ts) ρ'
theorem tv_tup (k : Nat) {m : Nat} (h : TVA X ks es vA) (hk : ∀ m ∈ ks, m = k := by simp) (hl : ks.length ≤ 1000 := by decide) : TVE X (.Tuple es m pos) (vTup k vA) := by
  obtain ⟨ta, pa, ka⟩ := h.ok
  refine ⟨⟨_, pe_tup pa, fun f τ ρ σ H Q R hs hw hq => ?_⟩⟩
  refine ka f τ ρ σ H _ _ hs hw fun ts ρ' vs ms H1 h1 hm s1 => ?_
  obtain ⟨S, rs, s⟩ := s1
  refine ⟨Nat.le_of_lt (small1000 (by rw [hm.lens.1]; exact hl)), fun p hp => ?_⟩
  have z := s.join hm hk hp (o := .tup vs) (t := .tup ts) (n := k + 1) (Fp := []) (.inl rfl) (fun H' e o => by rw [List.nil_append]; exact Own.tup e o)
  exact hq (k + 1) (.tup ts) ρ' _ _ _ h1 ⟨S, rs, z⟩
def vTup0 (vA : List Ent → (List T → List Ent → Prop) → Prop) : List Ent → (Nat → T → List Ent → Prop) → Prop := fun ρ R => vA ρ fun ts ρ' => R 0 (.tup ts) ρ'
/-- a tuple of shared values -/
theorem tv_tup0 {m : Nat} (h : TVA X ks es vA) (hk : ∀ m ∈ ks, m = 0 := by simp) (hl : ks.length ≤ 1000 := by decide) : TVE X (.Tuple es m pos) (vTup0 vA) := by
  obtain ⟨ta, pa, ka⟩ := h.ok
  refine ⟨⟨_, pe_tup pa, fun f τ ρ σ H Q R hs hw hq => ?_⟩⟩
  refine ka f τ ρ σ H _ _ hs hw fun ts ρ' vs ms H1 h1 hm s1 => ?_
  obtain ⟨S, rs, s⟩ := s1
  refine ⟨Nat.le_of_lt (small1000 (by rw [hm.lens.1]; exact hl)), fun p hp => ?_⟩
  have z := s.join hm hk hp (o := .tup vs) (t := .tup ts) (n := 0) (Fp := []) (.inl rfl) (fun H' e o => by
    have e0 := o.zero
    rw [e0] at o ⊢
    exact Own.tup0 (SqT.of e) o)
  exact hq 0 (.tup ts) ρ' _ _ _ h1 ⟨S, rs, z⟩
/-- a new list whose items are flat, out of a pure value that makes it -/
theorem tv_new {tt : TE} (hp : PE X e tt) {u : List Ent → (List T → Prop) → Prop}
    (hk : ∀ (S : Addr → Prop) (ρ : List Ent) (σ : St) (H : Hp) (Q : VK) (R : List T → Prop), RdS X.K S ρ σ H → u ρ R → (∀ ts vs H1, R ts → Same H H1 → Shrs X.K H1 (fresh S H) ts vs → ∀ p, H1 p = none → Q (.ref p) (upd H1 p (.lst vs))) → tt σ H Q) :
    TVE X e (fun ρ R => u ρ fun ts => T.flats ts = true ∧ R 1 (.lst ts) ρ) := by
  refine ⟨⟨tt, hp, fun f τ ρ σ H Q R hs hw hq => ?_⟩⟩
  refine hk _ ρ σ H _ _ hs.rdAll hw fun ts vs H1 h1 s1 x1 p hp => ?_
  obtain ⟨S, rs, s⟩ := hs.same s1
  have hsm : Same H1 (upd H1 p (.lst vs)) := fun b o e => by rw [upd_ne (ne_of_none e hp)]; exact e
  have x2 : Owns X.K (upd H1 p (.lst vs)) (fresh (fun _ => True) H) 0 ts vs [] := Owns.keep (fun _ z => z) x1 (.same hsm)
  exact hq 1 (.lst ts) ρ _ _ _ h1.2 ⟨S, rs, s.pushNew (kd := .lst) hp rfl ((Owns.flat0 x2 h1.1).2 0 S)⟩
def vList (wA : List Ent → (List T → Prop) → Prop) : List Ent → (Nat → T → List Ent → Prop) → Prop := fun ρ R => wA ρ (fun ts => gKids (fun us _ => T.flats us = true ∧ R 1 (.lst us) ρ) ts fun _ => False)
theorem tv_list {wA : List Ent → (List T → Prop) → Prop} (hg : Gl X "list") (hm : X.mg "list" = none) (ha : TPA X [a] wA) (hv : bootBuiltins "list" = some (.type "list") := by decide +kernel)
    (he : starEach [a] X.env = (false, eval a X.env) :: starEach [] X.env := by rfl) (hpl : (backTo pos (starEach [] X.env)).any (·.1) = false := by rfl) :
    TVE X (.Call (.Name "list" p) [a] [] pos) (vList wA) := by
  obtain ⟨ta, pa, ka⟩ := ha.ok
  refine tv_new (u := fun ρ R => wA ρ (fun ts => gKids (fun us _ => R us) ts fun _ => False)) (pe_callTy call_list_of hg hm hv pa (by decide) (by decide) he hpl) fun S ρ σ H Q R hr hw hq => ?_
  refine ka S ρ σ H _ _ hr hw fun ts vs H1 h1 s1 x1 => ?_
  unfold gKids at h1
  split at h1
  · obtain ⟨v, rfl, a⟩ := shrs1 x1
    obtain ⟨p0, ws, rfl, q, r⟩ := shr_lst a
    exact ⟨p0, ws, rfl, .inl q.sq, fun l hl => hq _ ws H1 h1 s1 r l hl⟩
  · obtain ⟨v, rfl, a⟩ := shrs1 x1
    obtain ⟨p0, ws, rfl, q, r⟩ := shr_tup a
    exact ⟨p0, ws, rfl, .inr q, fun l hl => hq _ ws H1 h1 s1 r l hl⟩
  · exact h1.elim
def vRep (wa : List Ent → (T → Prop) → Prop) (wb : List Ent → (T → Prop) → Prop) : List Ent → (Nat → T → List Ent → Prop) → Prop := fun ρ R => wa ρ fun t => wb ρ fun u => gRep t u fun z => match z with | .nd .lst ts => T.flats ts = true ∧ R 1 (.lst ts) ρ | _ => False
theorem tv_rep (ha : TPE X a wa) (hb : TPE X b wb) : TVE X (.BinOp a .Mult b pos) (vRep wa wb) := by
  obtain ⟨ta, pa, ka⟩ := ha.ok
  obtain ⟨tb, pb, kb⟩ := hb.ok
  refine tv_new (u := fun ρ R => wa ρ fun t => wb ρ fun u => gRep t u fun z => match z with | .nd .lst ts => R ts | _ => False) (pe_op op_rep pa pb) fun S ρ σ H Q R hr hw hq => ?_
  refine ka S ρ σ H _ _ hr hw fun t v H1 h1 s1 x1 => ?_
  refine kb (fresh S H) ρ σ H1 _ _ (hr.same s1) h1 fun u v2 H2 h2 s2 x2 => ?_
  cases t using T.cs <;> first | exact h2.elim | skip
  cases u using T.cs <;> first | exact h2.elim | skip
  obtain ⟨a0, vs, rfl, q, r⟩ := shr_lst (x1.keep (fun _ z => z) (.same s2))
  rw [shr_int x2]
  obtain ⟨g1, g2, g3, g4⟩ := h2
  exact ⟨a0, _, vs, rfl, rfl, q.1, g1, g2, by rw [← r.length]; exact Nat.le_trans g3 million, fun p hp => hq _ _ H2 g4 (s1.trans s2) (shrs_rep r _) p hp⟩
variable {lo hi : Option Expr} {wl wh : List Ent → (Option Int → Prop) → Prop}
def vSlice (wa : List Ent → (T → Prop) → Prop) (wl : List Ent → (Option Int → Prop) → Prop) (wh : List Ent → (Option Int → Prop) → Prop) : List Ent → (Nat → T → List Ent → Prop) → Prop := fun ρ R => wSl wa wl wh ρ fun ts l h => T.flats (cutT ts l h) = true ∧ R 1 (.lst (cutT ts l h)) ρ
theorem tv_slice (ha : TPE X a wa) (hl : TPO X lo wl) (hh : TPO X hi wh) : TVE X (.Subscript a (.Slice lo hi none p2) pos) (vSlice wa wl wh) := by
  obtain ⟨ta, pa, ka⟩ := ha.ok
  obtain ⟨tl, pl, kl⟩ := hl.ok
  obtain ⟨th, ph, kh⟩ := hh.ok
  refine tv_new (u := fun ρ R => wSl wa wl wh ρ fun ts l h => R (cutT ts l h)) (pe_slice sl_list pa pl ph) fun S ρ σ H Q R hr hw hq => ?_
  refine ka S ρ σ H _ _ hr hw fun t v H1 h1 s1 x1 => ?_
  refine kl (fresh S H) ρ σ H1 _ _ (hr.same s1) h1 fun l H2 h2 s2 => ?_
  refine kh (fresh (fresh S H) H1) ρ σ H2 _ _ ((hr.same s1).same s2) h2 fun h H3 h3 s3 => ?_
  cases t using T.cs <;> first | exact h3.elim | skip
  have s13 := s2.trans s3
  obtain ⟨p0, vs, rfl, q, r⟩ := shr_lst (x1.keep (fun _ z => z) (.same s13))
  exact ⟨p0, vs, rfl, q.sq, fun p hp => hq _ _ H3 h3 (s1.trans s13) (shrs_cut r) p hp⟩
end
end TL
set_option Elab.async false
set_option linter.all false
set_option maxRecDepth 100000
namespace TL
open PySem PySem.Spec PyProof.Rows L2

/-! ### calls that change slots -/
inductive AR where
  | sl (j : Nat) | tv (k : Nat)
inductive Cms (σ : St) : List AR → List T → List V → List Root → Prop
  | nil : Cms σ [] [] [] []
  | sl {j : Nat} {as : List AR} {ts : List T} {v : V} {vs : List V} {ms : List Root} : σ[j]? = some (some v) → Cms σ as ts vs ms → Cms σ (.sl j :: as) (.non :: ts) (v :: vs) ms
  | tv {k : Nat} {as : List AR} {t : T} {ts : List T} {v : V} {vs : List V} {F : List Addr} {ms : List Root} : Cms σ as ts vs ms → Cms σ (.tv k :: as) (t :: ts) (v :: vs) (tmp k t v F :: ms)
def slsOf : List AR → List Nat
  | [] => []
  | .sl j :: as => j :: slsOf as
  | .tv _ :: as => slsOf as
/-- the trees that the callee gets -/
def inT (ρ : List Ent) : List Par → List AR → List T → Option (List T)
  | [], [], [] => some []
  | .sh :: ps, .tv k :: as, t :: ts => if k = 0 then (inT ρ ps as ts).map (t :: ·) else none
  | .io n :: ps, .tv k :: as, t :: ts => if k = n then (inT ρ ps as ts).map (t :: ·) else none
  | .io n :: ps, .sl j :: as, _ :: ts => match ρ[j]?.bind Ent.own with
    | some (m, t) => if m = n then (inT ρ ps as ts).map (t :: ·) else none
    | none => none
  | _, _, _ => none
/-- which slots get which trees behind the call -/
def ups : List Par → List AR → List T → List (Nat × T)
  | .sh :: ps, _ :: as, os => ups ps as os
  | .io _ :: ps, .tv _ :: as, _ :: os => ups ps as os
  | .io _ :: ps, .sl j :: as, o :: os => (j, o) :: ups ps as os
  | _, _, _ => []
def putL (us : List (Nat × T)) : Nat → List Ent → List Ent
  | _, [] => []
  | k, e :: ρ => (match us.lookup k with
    | some t => e.put t
    | none => e) :: putL us (k + 1) ρ
theorem putL_get (us : List (Nat × T)) : ∀ (ρ : List Ent) (k i : Nat), (putL us k ρ)[i]? = ρ[i]?.map fun e => match us.lookup (k + i) with
    | some t => e.put t
    | none => e
  | [], k, i => by rw [putL]; simp
  | e :: ρ, k, 0 => by rw [putL]; simp
  | e :: ρ, k, i + 1 => by
    rw [putL, List.getElem?_cons_succ, List.getElem?_cons_succ, putL_get us ρ (k + 1) i]
    have e : k + 1 + i = k + (i + 1) := by omega
    rw [e]
theorem putL_len (us : List (Nat × T)) : ∀ (ρ : List Ent) (k : Nat), (putL us k ρ).length = ρ.length
  | [], _ => rfl
  | e :: ρ, k => by rw [putL, List.length_cons, List.length_cons, putL_len us ρ]
/-- slot -> place among the callee's changed arguments -/
def ixs : List Par → List AR → Nat → List (Nat × Nat)
  | .sh :: ps, _ :: as, d => ixs ps as d
  | .io _ :: ps, .tv _ :: as, d => ixs ps as (d + 1)
  | .io _ :: ps, .sl j :: as, d => (j, d) :: ixs ps as (d + 1)
  | _, _, _ => []
theorem lookup_mem {α : Type} {l : List (Nat × α)} {i : Nat} {x : α} (h : l.lookup i = some x) : (i, x) ∈ l := by
  induction l with
  | nil => cases h
  | cons p l ih =>
    obtain ⟨a, b⟩ := p
    by_cases e : i = a
    · subst e
      simp [List.lookup] at h
      subst h
      exact List.mem_cons_self
    · have e2 : (i == a) = false := by simpa using e
      simp [List.lookup, e2] at h
      exact List.mem_cons_of_mem _ (ih h)
theorem ixs_ge : ∀ {ps : List Par} {as : List AR} {d : Nat} {p : Nat × Nat}, p ∈ ixs ps as d → d ≤ p.2
  | .sh :: ps, a :: as, d, p, h => by rw [ixs] at h; exact ixs_ge h
  | .io n :: ps, .tv k :: as, d, p, h => by
    rw [ixs] at h
    have := ixs_ge h
    omega
  | .io n :: ps, .sl j :: as, d, p, h => by
    rw [ixs] at h
    rcases List.mem_cons.mp h with rfl | h
    · exact Nat.le_refl _
    · have := ixs_ge h
      omega
  | [], as, d, p, h => by rw [ixs] at h <;> first | cases h | simp
  | .sh :: ps, [], d, p, h => by rw [ixs] at h <;> first | cases h | simp
  | .io n :: ps, [], d, p, h => by rw [ixs] at h <;> first | cases h | simp
theorem ixs_inj : ∀ {ps : List Par} {as : List AR} {d : Nat} {i j x : Nat}, (i, x) ∈ ixs ps as d → (j, x) ∈ ixs ps as d → i = j
  | .sh :: ps, a :: as, d, i, j, x, h, g => by rw [ixs] at h g; exact ixs_inj h g
  | .io n :: ps, .tv k :: as, d, i, j, x, h, g => by rw [ixs] at h g; exact ixs_inj h g
  | .io n :: ps, .sl j' :: as, d, i, j, x, h, g => by
    rw [ixs] at h g
    rcases List.mem_cons.mp h with h | h
    · rcases List.mem_cons.mp g with g | g
      · have := Prod.mk.inj h
        have := Prod.mk.inj g
        omega
      · have h1 := Prod.mk.inj h
        have h2 := ixs_ge g
        simp at h2
        omega
    · rcases List.mem_cons.mp g with g | g
      · have h1 := Prod.mk.inj g
        have h2 := ixs_ge h
        simp at h2
        omega
      · exact ixs_inj h g
  | [], as, d, i, j, x, h, g => by rw [ixs] at h <;> first | cases h | simp
  | .sh :: ps, [], d, i, j, x, h, g => by rw [ixs] at h <;> first | cases h | simp
  | .io n :: ps, [], d, i, j, x, h, g => by rw [ixs] at h <;> first | cases h | simp
theorem getElem?_skip {α : Type} (l r : List α) (i : Nat) : (l ++ r)[l.length + i]? = r[i]? := by
  rw [List.getElem?_append_right (by omega)]
  have e : l.length + i - l.length = i := by omega
  rw [e]
section
variable {K : PySem.W.Frag} {f : Fm} {S S' : Addr → Prop} {H H' : Hp} {τ τ' ms rs rs' : List Root} {ρ ρ' : List Ent} {σ : St}
theorem slot_io {e : Ent} {o : Option V} {F : List Addr} {n : Nat} {t : T} (h : SlotR K H S e o F) (ho : e.own = some (n, t)) : SlotR K H S (.io n t) o F := h.own ho
/-- the callee's roots -/
theorem mkRc (all : List Root) (hslot : ∀ (i : Nat) r, all[i]? = some r → SlotR K H S r.e r.o r.F) (hρ : ∀ (i : Nat) e, ρ[i]? = some e → ∃ r, all[i]? = some r ∧ r.e = e ∧ σ[i]? = some r.o) :
    ∀ {ps : List Par} {as : List AR} {ts us : List T} {vs : List V} {ms : List Root} (off : Nat), Cms σ as ts vs ms → inT ρ ps as ts = some us → (slsOf as).Nodup → (∀ j ∈ slsOf as, j < off) → (∀ i r, ms[i]? = some r → all[off + i]? = some r) →
    ∃ (rc : List Root) (g : Nat → Nat), Pin ps us vs rc ∧ (∀ m r, rc[m]? = some r → ∃ q, all[g m]? = some q ∧ q.F = r.F ∧ SlotR K H S r.e r.o r.F) ∧ (∀ m l, m < rc.length → l < rc.length → g m = g l → m = l) ∧ ∀ m, m < rc.length → g m ∈ slsOf as ∨ off ≤ g m
  | ps, [], ts, us, vs, ms, off, c, h, nd, hj, hm => by
    cases c
    cases ps with
    | nil =>
      rw [inT] at h
      cases h
      exact ⟨[], fun m => m, .nil, fun m r e => by simp at e, fun m l e => by simp at e, fun m e => by simp at e⟩
    | cons p ps => cases p <;> (rw [inT] at h <;> first | cases h | simp)
  | ps, .sl j :: as, ts, us, vs, ms, off, c, h, nd, hj, hm => by
    cases c with
    | @sl _ _ ts v vs ms hv c =>
      cases ps with
      | nil => rw [inT] at h <;> first | cases h | simp
      | cons p ps =>
        cases p with
        | sh => rw [inT] at h <;> first | cases h | simp
        | io n =>
          rw [inT] at h
          cases q : ρ[j]?.bind Ent.own with
          | none => rw [q] at h; cases h
          | some mt =>
            obtain ⟨m, t⟩ := mt
            rw [q] at h
            by_cases e : m = n
            · subst e
              simp only [if_true] at h
              cases q2 : inT ρ ps as ts with
              | none => rw [q2] at h; cases h
              | some us' =>
                rw [q2] at h
                have h := (Option.some.inj h).symm
                subst h
                obtain ⟨nj, nd'⟩ := List.nodup_cons.mp (show (j :: slsOf as).Nodup from nd)
                obtain ⟨rc, g, p1, p2, p3, p4⟩ := mkRc all hslot hρ off c q2 nd' (fun k hk => hj k (List.mem_cons_of_mem _ hk)) hm
                cases q3 : ρ[j]? with
                | none => rw [q3] at q; cases q
                | some e =>
                  rw [q3] at q
                  have q : e.own = some (m, t) := q
                  obtain ⟨r, r1, r2, r3⟩ := hρ j e q3
                  have z := slot_io (n := m) (t := t) (hslot j r r1) (by rw [r2]; exact q)
                  rw [hv] at r3
                  have r3 := Option.some.inj r3
                  refine ⟨⟨.io m t, some v, r.F⟩ :: rc, fun i => match i with | 0 => j | i + 1 => g i, .cons (p := .io m) p1, fun i r' e' => ?_, fun a b ha hb z => ?_, fun i hi => ?_⟩
                  · cases i with
                    | zero =>
                      have e' := (Option.some.inj e').symm
                      subst e'
                      exact ⟨r, r1, rfl, by rw [r3]; exact z⟩
                    | succ i => exact p2 i r' (by simpa using e')
                  · cases a with
                    | zero =>
                      cases b with
                      | zero => rfl
                      | succ b =>
                        have z : j = g b := z
                        rcases p4 b (by simpa using hb) with w | w
                        · exact absurd (z ▸ w) nj
                        · have := hj j List.mem_cons_self; omega
                    | succ a =>
                      cases b with
                      | zero =>
                        have z : g a = j := z
                        rcases p4 a (by simpa using ha) with w | w
                        · exact absurd (z ▸ w) nj
                        · have := hj j List.mem_cons_self; omega
                      | succ b =>
                        have := p3 a b (by simpa using ha) (by simpa using hb) z
                        rw [this]
                  · cases i with
                    | zero => exact .inl List.mem_cons_self
                    | succ i => exact (p4 i (by simpa using hi)).imp_left (List.mem_cons_of_mem _)
            · simp only [if_neg e] at h; cases h
  | ps, .tv k :: as, ts, us, vs, ms, off, c, h, nd, hj, hm => by
    cases c with
    | @tv _ _ t ts v vs F ms c =>
      have hroot : all[off]? = some (tmp k t v F) := by have := hm 0 _ rfl; simpa using this
      have hs0 := hslot _ _ hroot
      have rest : ∀ {ps : List Par} {us' : List T} {pp : Par}, inT ρ ps as ts = some us' → SlotR K H S (entOf pp t) (some v) F →
          ∃ (rc : List Root) (g : Nat → Nat), Pin (pp :: ps) (t :: us') (v :: vs) rc ∧ (∀ m r, rc[m]? = some r → ∃ q, all[g m]? = some q ∧ q.F = r.F ∧ SlotR K H S r.e r.o r.F) ∧ (∀ m l, m < rc.length → l < rc.length → g m = g l → m = l) ∧ ∀ m, m < rc.length → g m ∈ slsOf as ∨ off ≤ g m := by
        intro ps us' pp q2 hsp
        obtain ⟨rc, g, p1, p2, p3, p4⟩ := mkRc all hslot hρ (off + 1) c q2 nd (fun k hk => Nat.lt_succ_of_lt (hj k hk)) (fun i r e => by
          have := hm (i + 1) r (by simpa using e)
          have e2 : off + 1 + i = off + (i + 1) := by omega
          rw [e2]; exact this)
        refine ⟨⟨entOf pp t, some v, F⟩ :: rc, fun i => match i with | 0 => off | i + 1 => g i, .cons p1, fun i r' e' => ?_, fun a b ha hb z => ?_, fun i hi => ?_⟩
        · cases i with
          | zero =>
            have e' := (Option.some.inj e').symm
            subst e'
            exact ⟨_, hroot, rfl, hsp⟩
          | succ i => exact p2 i r' (by simpa using e')
        · cases a with
          | zero =>
            cases b with
            | zero => rfl
            | succ b =>
              have z : off = g b := z
              rcases p4 b (by simpa using hb) with w | w
              · have := hj _ w; omega
              · omega
          | succ a =>
            cases b with
            | zero =>
              have z : g a = off := z
              rcases p4 a (by simpa using ha) with w | w
              · have := hj _ w; omega
              · omega
            | succ b =>
              have := p3 a b (by simpa using ha) (by simpa using hb) z
              rw [this]
        · cases i with
          | zero => exact .inr (Nat.le_refl _)
          | succ i => exact (p4 i (by simpa using hi)).imp_right (fun z => by show off ≤ g i; omega)
      cases ps with
      | nil => rw [inT] at h <;> first | cases h | simp
      | cons p ps =>
        cases p with
        | sh =>
          rw [inT] at h
          by_cases e : k = 0
          · subst e
            simp only [if_true] at h
            cases q2 : inT ρ ps as ts with
            | none => rw [q2] at h; cases h
            | some us' =>
              rw [q2] at h
              have h := (Option.some.inj h).symm
              subst h
              exact rest (pp := .sh) q2 hs0
          · rw [if_neg e] at h; cases h
        | io n =>
          rw [inT] at h
          by_cases e : k = n
          · subst e
            simp only [if_true] at h
            cases q2 : inT ρ ps as ts with
            | none => rw [q2] at h; cases h
            | some us' =>
              rw [q2] at h
              have h := (Option.some.inj h).symm
              subst h
              exact rest (pp := .io k) q2 hs0
          · rw [if_neg e] at h; cases h
/-- what comes back, slot by slot -/
theorem outs_ix : ∀ {ps : List Par} {as : List AR} {ts us : List T} {vs : List V} {ms rs' : List Root} {outs : List T} (d : Nat), Cms σ as ts vs ms → inT ρ ps as ts = some us → Pout ps outs vs rs' → (slsOf as).Nodup →
    (∀ j, j ∉ slsOf as → (ups ps as outs).lookup j = none ∧ (ixs ps as d).lookup j = none) ∧
    ∀ j ∈ slsOf as, ∃ n t t' v F x e, ρ[j]? = some e ∧ e.own = some (n, t) ∧ σ[j]? = some (some v) ∧ (ups ps as outs).lookup j = some t' ∧ (ixs ps as d).lookup j = some (d + x) ∧ rs'[x]? = some ⟨.io n t', some v, F⟩
  | ps, [], ts, us, vs, ms, rs', outs, d, c, h, po, nd => by
    cases c
    cases ps with
    | nil => exact ⟨fun j _ => ⟨by rw [ups] <;> simp, by rw [ixs] <;> simp⟩, fun j hj => nomatch hj⟩
    | cons p ps => cases p <;> (rw [inT] at h <;> first | cases h | simp)
  | ps, .sl j0 :: as, ts, us, vs, ms, rs', outs, d, c, h, po, nd => by
    cases c with
    | @sl _ _ ts v vs ms hv c =>
      cases ps with
      | nil => rw [inT] at h <;> first | cases h | simp
      | cons p ps =>
        cases p with
        | sh => rw [inT] at h <;> first | cases h | simp
        | io n =>
          rw [inT] at h
          cases q : ρ[j0]?.bind Ent.own with
          | none => rw [q] at h; cases h
          | some mt =>
            obtain ⟨m, t⟩ := mt
            rw [q] at h
            by_cases e : m = n
            · subst e
              simp only [if_true] at h
              cases q2 : inT ρ ps as ts with
              | none => rw [q2] at h; cases h
              | some us' =>
                cases po with
                | @io _ _ o outs _ _ F rs' po =>
                  obtain ⟨nj, nd'⟩ := List.nodup_cons.mp (show (j0 :: slsOf as).Nodup from nd)
                  obtain ⟨h1, h2⟩ := outs_ix (d + 1) c q2 po nd'
                  refine ⟨fun j hj => ?_, fun j hj => ?_⟩
                  · have hne : j ≠ j0 := fun z => hj (z ▸ List.mem_cons_self)
                    have hb : (j == j0) = false := by simpa using hne
                    obtain ⟨a, b⟩ := h1 j fun z => hj (List.mem_cons_of_mem _ z)
                    exact ⟨by simp [ups, List.lookup, hb, a], by simp [ixs, List.lookup, hb, b]⟩
                  · rcases List.mem_cons.mp hj with rfl | hj
                    · cases q3 : ρ[j]? with
                      | none => rw [q3] at q; cases q
                      | some e =>
                        rw [q3] at q
                        exact ⟨m, t, o, v, F, 0, e, rfl, q, hv, by simp [ups, List.lookup], by simp [ixs, List.lookup], rfl⟩
                    · have hne : j ≠ j0 := fun z => nj (z ▸ hj)
                      have hb : (j == j0) = false := by simpa using hne
                      obtain ⟨n', t0, t', v', F', x, e, a1, a2, a3, a4, a5, a6⟩ := h2 j hj
                      exact ⟨n', t0, t', v', F', x + 1, e, a1, a2, a3, by simp [ups, List.lookup, hb, a4], by simp [ixs, List.lookup, hb, a5]; omega, by simpa using a6⟩
            · simp only [if_neg e] at h; cases h
  | ps, .tv k :: as, ts, us, vs, ms, rs', outs, d, c, h, po, nd => by
    cases c with
    | @tv _ _ t ts v vs F ms c =>
      cases ps with
      | nil => rw [inT] at h <;> first | cases h | simp
      | cons p ps =>
        cases p with
        | sh =>
          rw [inT] at h
          by_cases e : k = 0
          · subst e
            simp only [if_true] at h
            cases q2 : inT ρ ps as ts with
            | none => rw [q2] at h; cases h
            | some us' =>
              cases po with
              | sh po =>
                obtain ⟨h1, h2⟩ := outs_ix d c q2 po nd
                exact ⟨fun j hj => by have := h1 j hj; exact ⟨by rw [ups]; exact this.1, by rw [ixs]; exact this.2⟩, fun j hj => by
                  obtain ⟨n', t0, t', v', F', x, e, a1, a2, a3, a4, a5, a6⟩ := h2 j hj
                  exact ⟨n', t0, t', v', F', x, e, a1, a2, a3, by rw [ups]; exact a4, by rw [ixs]; exact a5, a6⟩⟩
          · rw [if_neg e] at h; cases h
        | io n =>
          rw [inT] at h
          by_cases e : k = n
          · subst e
            simp only [if_true] at h
            cases q2 : inT ρ ps as ts with
            | none => rw [q2] at h; cases h
            | some us' =>
              cases po with
              | @io _ _ o outs _ _ F' rs' po =>
                obtain ⟨h1, h2⟩ := outs_ix (d + 1) c q2 po nd
                exact ⟨fun j hj => by have := h1 j hj; exact ⟨by rw [ups]; exact this.1, by rw [ixs]; exact this.2⟩, fun j hj => by
                  obtain ⟨n', t0, t', v', F', x, e, a1, a2, a3, a4, a5, a6⟩ := h2 j hj
                  exact ⟨n', t0, t', v', F', x + 1, e, a1, a2, a3, by rw [ups]; exact a4, by rw [ixs, a5]; congr 1; omega, by simpa using a6⟩⟩
          · rw [if_neg e] at h; cases h
end
end TL
set_option Elab.async false
set_option linter.all false
set_option maxRecDepth 100000
namespace TL
open PySem PySem.Spec PyProof.Rows L2
section
variable {K : PySem.W.Frag} {f : Fm} {S S' : Addr → Prop} {H H' : Hp} {τ τ' ms rs rs' : List Root} {ρ ρ' : List Ent} {σ : St}
def Ent.treeIo : Ent → T
  | .io _ t => t
  | _ => .non
/-- a root behind the call -/
def newR (js : List Nat) (U : List (Nat × Nat)) (rs' : List Root) (i : Nat) (r : Root) : Root := match U.lookup i with
  | some x => match rs'[x]? with
    | some q => ⟨r.e.put q.e.treeIo, r.o, q.F⟩
    | none => r
  | none => ⟨noRo js r.e, r.o, if (noRo js r.e).tr.isSome then r.F else []⟩
theorem mem_footOf {a : Addr} {m : Nat} {r : Root} (h : ms[m]? = some r) (ha : a ∈ r.F) : a ∈ foot ms := List.mem_flatMap.mpr ⟨r, List.mem_of_getElem? h, ha⟩
theorem call_core {ps : List Par} {as : List AR} {ts us : List T} {vs : List V} {W : FnT} {R : Nat → T → List T → Prop} {Q : VK} {E : XK}
    (s : StaW K f (τ ++ ms) ρ σ H S rs) (c : Cms σ as ts vs ms) (hin : inT ρ ps as ts = some us) (nd : (slsOf as).Nodup) (hW : W us R)
    (k : ∀ n t outs v F H', R n t outs → Sta K f (τ ++ [tmp n t v F]) (putL (ups ps as outs) 0 (killJ (slsOf as) ρ)) σ H' → Q v H') : spT K ps W vs H Q E := by
  have hsl := fun (i : Nat) r (e : (rs ++ (τ ++ ms))[i]? = some r) => (s.good.slot i r e).1
  have hρ : ∀ (i : Nat) e, ρ[i]? = some e → ∃ r, (rs ++ (τ ++ ms))[i]? = some r ∧ r.e = e ∧ σ[i]? = some r.o := fun i e h => by
    obtain ⟨r, a, b, c, _⟩ := s.get h
    exact ⟨r, a, b, c⟩
  have hoff : ∀ j ∈ slsOf as, j < rs.length := fun j hj => by
    have key : ∀ {ps : List Par} {as : List AR} {ts us : List T}, inT ρ ps as ts = some us → j ∈ slsOf as → j < ρ.length := by
      intro ps as
      induction as generalizing ps with
      | nil => intro ts us _ h; cases h
      | cons a as ih =>
        intro ts us h hj
        cases ps with
        | nil => cases a <;> (rw [inT] at h <;> first | cases h | simp)
        | cons p ps =>
          cases ts with
          | nil => cases a <;> cases p <;> (rw [inT] at h <;> first | cases h | simp)
          | cons t ts =>
            cases a with
            | sl j0 =>
              cases p with
              | sh => rw [inT] at h <;> first | cases h | simp
              | io n =>
                rw [inT] at h
                cases q : ρ[j0]?.bind Ent.own with
                | none => rw [q] at h; cases h
                | some mt =>
                  obtain ⟨m, t'⟩ := mt
                  rw [q] at h
                  rcases List.mem_cons.mp hj with rfl | hj
                  · cases q3 : ρ[j]? with
                    | none => rw [q3] at q; cases q
                    | some e => exact (List.getElem?_eq_some_iff.mp q3).1
                  · by_cases e : m = n
                    · simp only [if_pos e] at h
                      cases q2 : inT ρ ps as ts with
                      | none => rw [q2] at h; cases h
                      | some us' => exact ih q2 hj
                    · simp only [if_neg e] at h; cases h
            | tv k0 =>
              cases p with
              | sh =>
                rw [inT] at h
                by_cases e : k0 = 0
                · rw [if_pos e] at h
                  cases q2 : inT ρ ps as ts with
                  | none => rw [q2] at h; cases h
                  | some us' => exact ih q2 hj
                · rw [if_neg e] at h; cases h
              | io n =>
                rw [inT] at h
                by_cases e : k0 = n
                · rw [if_pos e] at h
                  cases q2 : inT ρ ps as ts with
                  | none => rw [q2] at h; cases h
                  | some us' => exact ih q2 hj
                · rw [if_neg e] at h; cases h
    rw [s.len]
    exact key hin hj
  have hms : ∀ i r, ms[i]? = some r → (rs ++ (τ ++ ms))[(rs ++ τ).length + i]? = some r := fun i r e => by
    rw [← List.append_assoc, getElem?_skip]; exact e
  obtain ⟨rc, g, p1, p2, p3, p4⟩ := mkRc (rs ++ (τ ++ ms)) hsl hρ (rs ++ τ).length c hin nd (fun j hj => by have := hoff j hj; rw [List.length_append]; omega) hms
  -- facts of the callee's footprint
  have frc : ∀ a ∈ foot rc, ∃ (m : Nat) (q : Root), m < rc.length ∧ (rs ++ (τ ++ ms))[g m]? = some q ∧ a ∈ q.F := fun a ha => by
    obtain ⟨m, r, h1, h2⟩ := mem_foot ha
    obtain ⟨q, a1, a2, _⟩ := p2 m r h1
    exact ⟨m, q, (List.getElem?_eq_some_iff.mp h1).1, a1, a2 ▸ h2⟩
  have Gc : Good K (callFm S H rc) S rc H := {
    slot := fun m r e => by
      obtain ⟨q, a1, a2, a3⟩ := p2 m r e
      obtain ⟨_, b2, b3⟩ := s.good.slot _ _ a1
      rw [a2] at b2 b3
      exact ⟨a3, b2, fun a ha => ⟨(b3 a ha).1, .inr (mem_footOf e ha)⟩⟩
    dj := fun m l r q e1 e2 ne a ha hb => by
      obtain ⟨q1, a1, a2, _⟩ := p2 m r e1
      obtain ⟨q2, b1, b2, _⟩ := p2 l q e2
      exact s.good.dj _ _ _ _ a1 b1 (fun z => ne (p3 m l (List.getElem?_eq_some_iff.mp e1).1 (List.getElem?_eq_some_iff.mp e2).1 z)) a (a2 ▸ ha) (b2 ▸ hb)
    trk := s.good.trk
    fr := fun a o h1 _ => h1
    src := fun a h => .inl h }
  refine ⟨us, S, rc, R, p1, Gc, hW, fun n t outs v H' S' rs' F0 hR po G' => k n t outs v F0 H' hR ?_⟩
  obtain ⟨o1, o2⟩ := outs_ix 0 c hin po nd
  let U := ixs ps as 0
  let js := slsOf as
  have kept : ∀ a o, H a = some o → a ∉ foot rc → H' a = some o := fun a o h1 h2 => G'.fr a o h1 h2
  have nonf : ∀ {i : Nat} {q : Root}, (rs ++ (τ ++ ms))[i]? = some q → i ∉ js → i < (rs ++ τ).length → ∀ a ∈ q.F, a ∉ foot rc := fun {i q} hi hj hl a ha hf => by
    obtain ⟨m, q', h0, h1, h2⟩ := frc a hf
    have ne : i ≠ g m := fun z => by
      rcases p4 m h0 with w | w
      · exact hj (z ▸ w)
      · omega
    exact s.good.dj _ _ _ _ hi h1 ne a ha h2
  have nonS : ∀ a ∈ foot rc, ¬ S a := fun a hf => by
    obtain ⟨m, q', h0, h1, h2⟩ := frc a hf
    exact ((s.good.slot _ _ h1).2.2 a h2).1
  have lstF : ∀ a ∈ foot rc, ∀ o, H a = some o → (∀ xs, o ≠ .tup xs) ∧ ∀ ob u, o ≠ .frz ob u := fun a hf o e => by
    obtain ⟨m, q', h0, h1, h2⟩ := frc a hf
    exact s.good.own_nt h1 h2 e
  have kp : ∀ F : List Addr, (∀ a ∈ F, a ∉ foot rc) → Kp H H' S F := fun F hF => ⟨fun a xs h => kept a _ h (fun z => (lstF a z _ h).1 xs rfl), fun a o u h => kept a _ h (fun z => (lstF a z _ h).2 o u rfl), fun a xs ha h => kept a _ h (fun z => by
      rcases ha with ha | ha
      · exact nonS a z ha
      · exact hF a ha z)⟩
  have hw : ∀ a, (H a = none ∨ a ∈ foot rc) → f.H0 a = none ∨ a ∈ f.W := fun a h => by
    rcases h with h | h
    · exact s.good.none_src h
    · obtain ⟨m, q', h0, h1, h2⟩ := frc a h
      exact ((s.good.slot _ _ h1).2.2 a h2).2
  have nS2 : ∀ a, ¬ S' a → (H a = none ∨ a ∈ foot rc) → ¬ (S a ∨ S' a) := fun a h1 h2 z => by
    rcases z with z | z
    · rcases h2 with h2 | h2
      · exact s.good.trk a z h2
      · exact nonS a h2 z
    · exact h1 z
  have oldS : ∀ {F : List Addr}, (∀ a ∈ F, a ∉ foot rc ∧ ¬ S a ∧ H a ≠ none) → ∀ a ∈ F, ¬ (S a ∨ S' a) := fun {F} hF a ha z => by
    obtain ⟨h1, h2, h3⟩ := hF a ha
    rcases z with z | z
    · exact h2 z
    · rcases G'.src a z with w | w | w
      · exact h2 w
      · exact h3 w
      · exact h1 w
  have thereN : ∀ {i : Nat} {q : Root}, (rs ++ (τ ++ ms))[i]? = some q → ∀ a ∈ q.F, H a ≠ none := fun hi a ha z => by
    obtain ⟨xs, w⟩ := s.good.own_there hi ha
    rw [z] at w; cases w
  -- the roots behind the call
  have hjU : ∀ {i x : Nat}, U.lookup i = some x → i ∈ js := fun {i x} h => by
    by_cases hj : i ∈ js
    · exact hj
    · have := (o1 i hj).2
      rw [show U.lookup i = none from this] at h; cases h
  have getN : ∀ {i : Nat} {r : Root}, (rs.mapIdx (newR js U rs'))[i]? = some r → ∃ r0, rs[i]? = some r0 ∧ r = newR js U rs' i r0 := fun {i r} h => by
    rw [List.getElem?_mapIdx] at h
    cases q : rs[i]? with
    | none => rw [q] at h; cases h
    | some r0 => rw [q] at h; exact ⟨r0, rfl, (Option.some.inj h).symm⟩
  -- the two kinds of root
  have two : ∀ {i : Nat} {r : Root}, (rs.mapIdx (newR js U rs') ++ τ)[i]? = some r →
      (∃ (x : Nat) (q : Root) (r0 : Root), U.lookup i = some x ∧ rs'[x]? = some q ∧ r.F = q.F ∧ rs[i]? = some r0 ∧ r.o = r0.o ∧ r.e = r0.e.put q.e.treeIo ∧ (∃ (n : Nat) (t t' : T) (v : V) (F : List Addr), q = ⟨.io n t', some v, F⟩ ∧ r0.e.own = some (n, t) ∧ r0.o = some v)) ∨
      (∃ q, (rs ++ (τ ++ ms))[i]? = some q ∧ i ∉ js ∧ i < (rs ++ τ).length ∧ ((r.e = .no ∧ r.F = []) ∨ (r = q ∧ ∀ t, q.e ≠ .ro t))) := fun {i r} h => by
    by_cases hlt : i < rs.length
    · rw [List.getElem?_append_left (by rw [List.length_mapIdx]; exact hlt)] at h
      obtain ⟨r0, h1, h2⟩ := getN h
      cases hU : U.lookup i with
      | some x =>
        left
        obtain ⟨n0, t0, t', v', F', x', e, a1, a2, a3, a4, a5, a6⟩ := o2 i (hjU hU)
        have ex : x = x' := by
          have a5 : U.lookup i = some (0 + x') := a5
          rw [hU] at a5
          have := Option.some.inj a5
          omega
        subst ex
        obtain ⟨r1, b1, b2, b3, b4⟩ := s.get a1
        rw [h1] at b4
        have b4 := Option.some.inj b4
        subst b4
        have er : r = ⟨r0.e.put t', r0.o, F'⟩ := by
          rw [h2]
          unfold newR
          rw [hU]
          simp only [a6]
          rfl
        refine ⟨x, _, r0, rfl, a6, by rw [er], h1, by rw [er], by rw [er]; rfl, n0, t0, t', v', F', rfl, by rw [b2]; exact a2, ?_⟩
        rw [a3] at b3
        exact (Option.some.inj b3).symm
      | none =>
        right
        have hj : i ∉ js := fun z => by
          obtain ⟨_, _, _, _, _, x', _, _, _, _, _, a5, _⟩ := o2 i z
          rw [show U.lookup i = some (0 + x') from a5] at hU; cases hU
        refine ⟨r0, getElem?_app h1, hj, by rw [List.length_append]; omega, ?_⟩
        have er : r = ⟨noRo js r0.e, r0.o, if (noRo js r0.e).tr.isSome then r0.F else []⟩ := by
          rw [h2]; unfold newR; rw [hU]
        rcases noRo_cases js r0.e with z | z
        · cases e0 : r0.e with
          | no =>
            left
            rw [er, z, e0]
            exact ⟨rfl, rfl⟩
          | ro t => rw [e0] at z; cases z
          | ow a b =>
            right
            have : (noRo js r0.e).tr.isSome = true := by rw [z, e0]; rfl
            rw [er, if_pos this, z]
            exact ⟨rfl, fun t z => by first | cases z | (rw [e0] at z; cases z)⟩
          | io a b =>
            right
            have : (noRo js r0.e).tr.isSome = true := by rw [z, e0]; rfl
            rw [er, if_pos this, z]
            exact ⟨rfl, fun t z => by first | cases z | (rw [e0] at z; cases z)⟩
          | al a b c =>
            right
            have : (noRo js r0.e).tr.isSome = true := by rw [z, e0]; rfl
            rw [er, if_pos this, z]
            exact ⟨rfl, fun t z => by first | cases z | (rw [e0] at z; cases z)⟩
        · left
          rw [er, z]
          exact ⟨rfl, rfl⟩
    · right
      have hl := (List.getElem?_eq_some_iff.mp h).1
      rw [List.length_append, List.length_mapIdx] at hl
      rw [List.getElem?_append_right (by rw [List.length_mapIdx]; omega), List.length_mapIdx] at h
      refine ⟨r, ?_, fun z => hlt (hoff i z), by rw [List.length_append]; omega, .inr ⟨rfl, fun t z => ?_⟩⟩
      · rw [List.getElem?_append_right (by omega)]
        exact getElem?_app h
      · obtain ⟨n0, t0, w⟩ := s.tm r (List.mem_append_left _ (List.mem_of_getElem? h))
        rw [w] at z; cases z
  have gres : (rs' ++ [tmp n t v F0])[rs'.length]? = some (tmp n t v F0) := getElem?_last
  have gout : ∀ {x : Nat} {q : Root}, rs'[x]? = some q → (rs' ++ [tmp n t v F0])[x]? = some q := fun h => getElem?_app h
  refine ⟨fun a => S a ∨ S' a, rs.mapIdx (newR js U rs'), ⟨?_, ?_, ?_, ?_, ?_, tm_app (fun r h => s.tm r (List.mem_append_left _ h)) ⟨_, _, rfl⟩⟩⟩
  · -- entries
    refine List.ext_getElem? fun i => ?_
    rw [List.getElem?_map, List.getElem?_mapIdx, putL_get]
    unfold killJ
    rw [List.getElem?_map, ← s.e, List.getElem?_map]
    cases q : rs[i]? with
    | none => rfl
    | some r0 =>
      show some (newR js U rs' i r0).e = some _
      rw [Nat.zero_add]
      by_cases hj : i ∈ js
      · obtain ⟨n0, t0, t', v', F', x, e, a1, a2, a3, a4, a5, a6⟩ := o2 i hj
        have hU : U.lookup i = some x := by
          have : U.lookup i = some (0 + x) := a5
          rw [this]; congr 1; omega
        obtain ⟨r1, b1, b2, b3, b4⟩ := s.get a1
        rw [q] at b4
        have b4 := Option.some.inj b4
        subst b4
        unfold newR
        rw [hU, a4]
        simp only [a6]
        have : noRo (slsOf as) r0.e = r0.e := noRo_own _ _ (by rw [b2, a2]; exact fun z => nomatch z)
        rw [this]
        rfl
      · obtain ⟨a1, a2⟩ := o1 i hj
        unfold newR
        rw [show U.lookup i = none from a2, a1]
  · refine List.ext_getElem? fun i => ?_
    rw [List.getElem?_map, List.getElem?_mapIdx, ← s.o, List.getElem?_map]
    cases q : rs[i]? with
    | none => rfl
    | some r0 =>
      show some (newR js U rs' i r0).o = some r0.o
      unfold newR
      split
      · split <;> rfl
      · rfl
  · rw [← List.append_assoc]
    refine ⟨fun m r e => ?_, fun m l r q e1 e2 ne a ha hb => ?_, fun a h => ?_, fun a o h1 h2 => ?_, fun a h => ?_⟩
    · rcases app_old e with ⟨_, rfl⟩ | ⟨_, e⟩
      · obtain ⟨b1, b2, b3⟩ := G'.slot _ _ gres
        refine ⟨?_, b2, fun a ha => ⟨nS2 a (b3 a ha).1 (b3 a ha).2, hw a (b3 a ha).2⟩⟩
        obtain ⟨v', e, own⟩ := b1
        exact ⟨v', e, own.mono fun _ => .inr⟩
      · rcases two e with ⟨x, q, r0, hU, hx, hF, h0, ho, he, n0, t0, t', v', F', rfl, w1, w2⟩ | ⟨q, hq, hj, hl, h1⟩
        · obtain ⟨b1, b2, b3⟩ := G'.slot _ _ (gout hx)
          rw [hF]
          refine ⟨?_, b2, fun a ha => ⟨nS2 a (b3 a ha).1 (b3 a ha).2, hw a (b3 a ha).2⟩⟩
          obtain ⟨v'', e', own⟩ := b1
          have e' := Option.some.inj e'
          subst e'
          rw [he, ho, w2]
          exact slot_put w1 (own.mono fun _ => .inr)
        · rcases h1 with ⟨h1, h2⟩ | ⟨rfl, hr⟩
          · refine ⟨?_, by rw [h2]; exact List.nodup_nil, fun a z => by rw [h2] at z; cases z⟩
            rw [h1]; exact h2
          · obtain ⟨b1, b2, b3⟩ := s.good.slot _ _ hq
            have nf := nonf hq hj hl
            exact ⟨b1.keep (fun _ => .inl) (kp _ nf) (fun t z => absurd z (hr t)), b2, fun a ha => ⟨oldS (fun a ha => ⟨nf a ha, (b3 a ha).1, thereN hq a ha⟩) a ha, (b3 a ha).2⟩⟩
    · -- disjoint
      have D1 : ∀ {x : Nat} {q : Root}, (rs' ++ [tmp n t v F0])[x]? = some q → ∀ a ∈ q.F, H a = none ∨ a ∈ foot rc := fun hx a ha => ((G'.slot _ _ hx).2.2 a ha).2
      have D2 : ∀ {i : Nat} {q : Root}, (rs ++ (τ ++ ms))[i]? = some q → i ∉ js → i < (rs ++ τ).length → ∀ a ∈ q.F, ¬ (H a = none ∨ a ∈ foot rc) := fun hi hj hl a ha z => by
        rcases z with z | z
        · exact thereN hi a ha z
        · exact nonf hi hj hl a ha z
      have cls : ∀ {m : Nat} {r : Root}, (rs.mapIdx (newR js U rs') ++ τ ++ [tmp n t v F0])[m]? = some r → a ∈ r.F →
          (∃ (x : Nat) (q : Root), (rs' ++ [tmp n t v F0])[x]? = some q ∧ a ∈ q.F ∧ ((m = (rs.mapIdx (newR js U rs') ++ τ).length ∧ x = rs'.length) ∨ (U.lookup m = some x ∧ m < (rs.mapIdx (newR js U rs') ++ τ).length ∧ x < rs'.length))) ∨
          (∃ q, (rs ++ (τ ++ ms))[m]? = some q ∧ m ∉ js ∧ m < (rs ++ τ).length ∧ a ∈ q.F) := fun {m r} e ha => by
        rcases app_old e with ⟨e0, rfl⟩ | ⟨e0, e⟩
        · exact .inl ⟨rs'.length, _, gres, ha, .inl ⟨e0, rfl⟩⟩
        · rcases two e with ⟨x, q, r0, hU, hx, hF, _⟩ | ⟨q, hq, hj, hl, h1⟩
          · exact .inl ⟨x, q, gout hx, hF ▸ ha, .inr ⟨hU, e0, (List.getElem?_eq_some_iff.mp hx).1⟩⟩
          · rcases h1 with ⟨_, h2⟩ | ⟨rfl, _⟩
            · rw [h2] at ha; cases ha
            · exact .inr ⟨r, hq, hj, hl, ha⟩
      rcases cls e1 ha with ⟨x, q1, g1, g2, g3⟩ | ⟨q1, g1, g2, g3, g4⟩
      · rcases cls e2 hb with ⟨y, q2, h1, h2, h3⟩ | ⟨q2, h1, h2, h3, h4⟩
        · refine G'.dj x y q1 q2 g1 h1 (fun z => ?_) a g2 h2
          rcases g3 with ⟨g3, g5⟩ | ⟨g3, g5, g6⟩
          · rcases h3 with ⟨h3, h5⟩ | ⟨h3, h5, h6⟩
            · exact ne (g3.trans h3.symm)
            · omega
          · rcases h3 with ⟨h3, h5⟩ | ⟨h3, h5, h6⟩
            · omega
            · subst z
              exact ne (ixs_inj (lookup_mem g3) (lookup_mem h3))
        · exact D2 h1 h2 h3 a h4 (D1 g1 a g2)
      · rcases cls e2 hb with ⟨y, q2, h1, h2, h3⟩ | ⟨q2, h1, h2, h3, h4⟩
        · exact D2 g1 g2 g3 a g4 (D1 h1 a h2)
        · exact s.good.dj _ _ _ _ g1 h1 ne a g4 h4
    · rcases h with h | h
      · intro z
        cases q : H a with
        | none => exact s.good.trk a h q
        | some o =>
          rw [kept a o q (fun w => nonS a w h)] at z; cases z
      · exact G'.trk a h
    · exact kept a o (s.good.fr a o h1 h2) fun w => by
        rcases hw a (.inr w) with z | z
        · rw [z] at h1; cases h1
        · exact h2 z
    · rcases h with h | h
      · exact s.good.src a h
      · rcases G'.src a h with w | w
        · exact s.good.src a w
        · exact .inr (hw a w)
  · intro k' j i u h
    rw [putL_get, Nat.zero_add] at h
    unfold killJ at h
    rw [List.getElem?_map] at h
    cases q : ρ[k']? with
    | none => rw [q] at h; cases h
    | some e0 =>
      rw [q] at h
      have h := Option.some.inj h
      have hk : k' ∉ js := fun z => by
        obtain ⟨n0, t0, t', v', F', x, e, a1, a2, a3, a4, a5, a6⟩ := o2 k' z
        rw [a4] at h
        rw [q] at a1
        have a1 := Option.some.inj a1
        subst a1
        have e1 : noRo (slsOf as) e0 = e0 := noRo_own _ _ (by rw [a2]; exact fun z => nomatch z)
        rw [e1] at h
        have h : e0.put t' = .al j i u := h
        have := put_own a2 t'
        rw [h] at this
        cases this
      rw [(o1 k' hk).1] at h
      have h : noRo js e0 = .al j i u := h
      have hj : j ∉ js ∧ e0 = .al j i u := by
        cases e0 with
        | al a b c =>
          by_cases ha : a ∈ js
          · simp [noRo, ha] at h
          · simp [noRo, ha] at h
            obtain ⟨rfl, rfl, rfl⟩ := h
            exact ⟨ha, rfl⟩
        | no => cases h
        | ow _ _ => cases h
        | io _ _ => cases h
        | ro _ => cases h
      obtain ⟨hj, rfl⟩ := hj
      obtain ⟨r, n', U', w0, w1, Fi, a1, a2, a3, a4, a5, a6, a7⟩ := (s.al k' j i u q).ex
      have hU : U.lookup j = none := (o1 j hj).2
      have g5 : (rs ++ (τ ++ ms))[j]? = some r := getElem?_app a1
      have hlj : j < (rs ++ τ).length := by
        have := (List.getElem?_eq_some_iff.mp a1).1
        rw [List.length_append]; omega
      have nf := nonf g5 hj hlj
      have er : newR js U rs' j r = r := by
        unfold newR
        rw [hU]
        have e1 : noRo js r.e = r.e := noRo_own _ _ (by rw [a2]; exact fun z => nomatch z)
        have e2 : r.e.tr.isSome = true := by cases e3 : r.e <;> rw [e3] at a2 <;> first | rfl | cases a2
        simp only [e1, e2]
        rfl
      refine ⟨⟨r, n', U', w0, w1, Fi, by rw [List.getElem?_mapIdx, a1]; show some (newR js U rs' j r) = some r; rw [er], a2, a3, a4, ?_, ?_, a7⟩⟩
      · obtain ⟨w0', e3, own3⟩ := (s.good.slot _ _ g5).1.own a2
        rw [a3] at e3
        have e3 := Option.some.inj e3
        subst e3
        generalize r.F = G at own3 nf
        cases a5 with
        | nd b1 b0 b2 b3 b4 =>
          cases own3 with
          | nd _ _ _ => exact .nd (kept _ _ b1 (nf _ List.mem_cons_self)) b0 b2 b3 (by cases b4; exact .nil)
        | tup b1 b2 b3 b4 => exact .tup ((kp [] (fun _ z => nomatch z)).tup _ _ b1) b2 b3 (by cases b4; exact .nil)
      · exact a6.keep (fun _ => .inl) (kp _ fun a ha => nf a (a7 a ha))
  · intro i n' u h
    rw [putL_get, Nat.zero_add] at h
    unfold killJ at h
    rw [List.getElem?_map] at h
    cases q : ρ[i]? with
    | none => rw [q] at h; cases h
    | some e0 =>
      rw [q] at h
      have h := Option.some.inj h
      by_cases hk : i ∈ js
      · obtain ⟨n0, t0, t', v', F', x, e, a1, a2, a3, a4, a5, a6⟩ := o2 i hk
        rw [a4] at h
        rw [q] at a1
        have a1 := Option.some.inj a1
        subst a1
        have e1 : noRo (slsOf as) e0 = e0 := noRo_own _ _ (by rw [a2]; exact fun z => nomatch z)
        rw [e1] at h
        have h : e0.put t' = .io n' u := h
        have e2 := put_io a2 h
        subst e2
        exact s.io i _ _ q
      · rw [(o1 i hk).1] at h
        have h : noRo (slsOf as) e0 = .io n' u := h
        rcases noRo_cases (slsOf as) e0 with z | z
        · rw [z] at h; exact s.io i n' u (by rw [q, h])
        · rw [z] at h; cases h
end
end TL
set_option Elab.async false
set_option linter.all false
set_option maxRecDepth 100000
namespace TL
open PySem PySem.Spec PyProof.Rows L2
section
variable {K : PySem.W.Frag} {f : Fm} {S S' : Addr → Prop} {H H' : Hp} {τ τ' ms rs rs' : List Root} {ρ ρ' : List Ent} {σ : St}
/-- a fresh owned value held -/
theorem StaW.pushF (s : StaW K f τ ρ σ H S rs) (hs : Same H H') {n : Nat} {t : T} {v : V} {F : List Addr} (own : Own K H' S n t v F) (nd : F.Nodup) (hF : ∀ a ∈ F, H a = none) : StaW K f (τ ++ [tmp n t v F]) ρ σ H' S rs := by
  have s' := s.same hs
  refine ⟨s.e, s.o, ?_, s'.al, s.io, tm_app s.tm ⟨_, _, rfl⟩⟩
  rw [← List.append_assoc]
  have nw : ∀ {m : Nat} {r : Root} {a : Addr}, (rs ++ τ)[m]? = some r → a ∈ F → a ∉ r.F := fun e ha hm => by
    obtain ⟨vs, q⟩ := s.good.own_there e hm
    rw [hF _ ha] at q; cases q
  exact {
    slot := fun m r e => by
      rcases app_old e with ⟨_, rfl⟩ | ⟨_, e⟩
      · exact ⟨⟨v, rfl, own⟩, nd, fun a z => ⟨fun y => s.good.trk a y (hF a z), s.good.none_src (hF a z)⟩⟩
      · exact s'.good.slot m r e
    dj := fun m l r q e1 e2 ne a ha hb => by
      rcases app_old e1 with ⟨d1, rfl⟩ | ⟨_, g1⟩
      · rcases app_old e2 with ⟨d2, rfl⟩ | ⟨_, g2⟩
        · exact ne (d1.trans d2.symm)
        · exact nw g2 ha hb
      · rcases app_old e2 with ⟨_, rfl⟩ | ⟨_, g2⟩
        · exact nw g1 hb ha
        · exact s.good.dj m l r q g1 g2 ne a ha hb
    trk := s'.good.trk
    fr := s'.good.fr
    src := s.good.src }
end
section
variable {X : Cx} {e a b c : Expr} {es : List Expr} {pos p p2 : Pos} {w wa wb : List Ent → (T → Prop) → Prop} {wA : List Ent → (List T → Prop) → Prop} {v va vb : List Ent → (Nat → T → List Ent → Prop) → Prop}
/-! ### calls held -/
structure TCA (X : Cx) (as : List AR) (es : List Expr) (w : List Ent → (List T → List Ent → Prop) → Prop) : Prop where
  ok : ∃ tt : TA, PA X es tt ∧ ∀ (f : Fm) (τ : List Root) (ρ : List Ent) (σ : St) (H : Hp) (Q : List V → Hp → Prop) (R : List T → List Ent → Prop), Sta X.K f τ ρ σ H → w ρ R → (∀ ts ρ' vs ms H', R ts ρ' → Cms σ as ts vs ms → Sta X.K f (τ ++ ms) ρ' σ H' → Q vs H') → tt σ H Q
variable {as : List AR} {vC : List Ent → (List T → List Ent → Prop) → Prop}
theorem tca_nil : TCA X [] [] (vaNil) := ⟨⟨_, pa_nil, fun f τ ρ σ H Q R hs hw hq => hq [] ρ [] [] H hw .nil (by rw [List.append_nil]; exact hs)⟩⟩
theorem tca_tv (k : Nat) (ha : TVE X e v) (hr : TCA X as es vC) (hs : starEach (e :: es) X.env = (false, eval e X.env) :: starEach es X.env := by rfl) :
    TCA X (.tv k :: as) (e :: es) (vaCons k v vC) := by
  obtain ⟨ta, pa, ka⟩ := ha.ok
  obtain ⟨tb, pb, kb⟩ := hr.ok
  refine ⟨⟨_, pa_cons pa pb hs, fun f τ ρ σ H Q R hs hw hq => ?_⟩⟩
  refine ka f τ ρ σ H _ _ hs hw fun n t ρ' v F H1 h1 s1 => ?_
  obtain ⟨S, rs, s⟩ := s1
  obtain ⟨F', S', _, s'⟩ := s.fitV h1.1
  refine kb f (τ ++ [tmp k t v F']) ρ' σ H1 _ _ ⟨S', rs, s'⟩ h1.2 fun ts ρ'' vs ms H2 h2 hm s2 => ?_
  refine hq (t :: ts) ρ'' (v :: vs) (tmp k t v F' :: ms) H2 h2 (.tv hm) ?_
  have e : τ ++ [tmp k t v F'] ++ ms = τ ++ tmp k t v F' :: ms := by simp
  rw [← e]
  exact s2
def cSl (j : Nat) (vC : List Ent → (List T → List Ent → Prop) → Prop) : List Ent → (List T → List Ent → Prop) → Prop := fun ρ R => (ρ[j]?.bind Ent.own).isSome = true ∧ vC ρ fun ts ρ'' => R (.non :: ts) ρ''
theorem tca_sl (j : Nat) {x : Str} (hr : TCA X as es vC) (hN : X.N[j]? = some x := by rfl) (hv : Vis X.env.scope x := by first | exact Or.inl rfl | exact Or.inr (Or.inl rfl) | exact Or.inr (Or.inr rfl)) (hd : (x == ("__debug__" : Str)) = false := by decide)
    (hcd : (x == ("__classdict__" : Str)) = false := by decide) (hs : starEach (.Name x pos :: es) X.env = (false, eval (.Name x pos) X.env) :: starEach es X.env := by rfl) :
    TCA X (.sl j :: as) (.Name x pos :: es) (cSl j vC) := by
  obtain ⟨tb, pb, kb⟩ := hr.ok
  refine ⟨⟨_, pa_cons (pe_var hN hv hd hcd) pb hs, fun f τ ρ σ H Q R hs hw hq => ?_⟩⟩
  obtain ⟨h1, h2⟩ := hw
  have hv : ∃ v, σ[j]? = some (some v) := by
    obtain ⟨S, rs, s⟩ := hs
    cases q : ρ[j]? with
    | none => rw [q] at h1; cases h1
    | some e0 =>
      rw [q] at h1
      cases q2 : e0.own with
      | none =>
        have h1 : e0.own.isSome = true := h1
        rw [q2] at h1; cases h1
      | some nt =>
        obtain ⟨n, t⟩ := nt
        obtain ⟨r, g1, g2, g3, g4⟩ := s.get q
        obtain ⟨v, ev, _⟩ := (s.good.slot _ _ g1).1.own (n := n) (t := t) (by rw [g2]; exact q2)
        exact ⟨v, by rw [g3, ev]⟩
  obtain ⟨v, hv⟩ := hv
  refine ⟨v, hv, kb f τ ρ σ H _ _ hs h2 fun ts ρ'' vs ms H2 h3 hm s2 => ?_⟩
  exact hq (.non :: ts) ρ'' (v :: vs) ms H2 h3 (.sl hv hm) s2
-- a continuation that simp is to leave alone
def KDep (R : Nat → T → List Ent → Prop) : Type := Unit
def callAt (ps : List Par) (as : List AR) (W : FnT) (R : Nat → T → List Ent → Prop) (_ : KDep R) (ts : List T) (ρ' : List Ent) : Prop := match inT ρ' ps as ts with
  | some us => W us fun n t outs => R n t (putL (ups ps as outs) 0 (killJ (slsOf as) ρ'))
  | none => False
def wCallV (ps : List Par) (as : List AR) (W : FnT) (vC : List Ent → (List T → List Ent → Prop) → Prop) : List Ent → (Nat → T → List Ent → Prop) → Prop := fun ρ R => vC ρ (callAt ps as W R ())
theorem tv_call {x : Str} {fa : Addr} {fd : FuncData} {qs : List Str} {k : Nat} {ps : List Par} {W : FnT} (F : FnOk X.prog X.w X.K X.mg X.base CX0 k fa fd qs (spT X.K ps W)) (hr : Room k X.A) (hg : Gl X x) (hm : X.mg x = some (.ref fa)) (hk : PySem.W.keepIn X.K (.ref fa) = true) (hb : Binds X.K fd qs [])
    (ha : TCA X as (e :: es) vC) (hnd : (slsOf as).Nodup := by decide) (hdb : (x == ("__debug__" : Str)) = false := by decide) (he : starEach (e :: es) X.env = (false, eval e X.env) :: starEach es X.env := by rfl) (hpl : (backTo pos (starEach es X.env)).any (·.1) = false := by rfl) :
    TVE X (.Call (.Name x p) (e :: es) [] pos) (wCallV ps as W vC) := by
  obtain ⟨ta, pa, ka⟩ := ha.ok
  refine ⟨⟨_, pe_call F hr hg hm hk hb .nil pass0 pa hdb he hpl, fun f τ ρ σ H Q R hs hw hq => ?_⟩⟩
  refine ka f τ ρ σ H _ _ hs hw fun ts ρ' vs ms H1 h1 hm s1 => ?_
  rw [List.append_nil]
  obtain ⟨S, rs, s⟩ := s1
  have h1 : (match inT ρ' ps as ts with
    | some us => W us fun n t outs => R n t (putL (ups ps as outs) 0 (killJ (slsOf as) ρ'))
    | none => False) := h1
  cases q : inT ρ' ps as ts with
  | none => rw [q] at h1; exact h1.elim
  | some us =>
    rw [q] at h1
    exact call_core s hm q hnd h1 fun n t outs v F H' hR hs' => hq n t _ v F H' hR hs'
def vCallN (m : Nat) (W : FnT) (wA : List Ent → (List T → Prop) → Prop) : List Ent → (Nat → T → List Ent → Prop) → Prop := fun ρ R => wA ρ fun ts => ts.length = m ∧ W ts fun n t _ => t.flatAt n = true ∧ R n t ρ
/-- a call that only reads; what it hands back is new, as deep as it is owned -/
theorem tv_callN {x : Str} {fa : Addr} {fd : FuncData} {qs : List Str} {k m : Nat} {W : FnT} (F : FnOk X.prog X.w X.K X.mg X.base CX0 k fa fd qs (spT X.K (allSh m) W)) (hr : Room k X.A) (hg : Gl X x) (hm : X.mg x = some (.ref fa)) (hk : PySem.W.keepIn X.K (.ref fa) = true) (hb : Binds X.K fd qs [])
    (ha : TPA X (e :: es) wA) (hdb : (x == ("__debug__" : Str)) = false := by decide) (he : starEach (e :: es) X.env = (false, eval e X.env) :: starEach es X.env := by rfl) (hpl : (backTo pos (starEach es X.env)).any (·.1) = false := by rfl) :
    TVE X (.Call (.Name x p) (e :: es) [] pos) (vCallN m W wA) := by
  obtain ⟨ta, pa, ka⟩ := ha.ok
  refine ⟨⟨_, pe_call F hr hg hm hk hb .nil pass0 pa hdb he hpl, fun f τ ρ σ H Q R hs hw hq => ?_⟩⟩
  refine ka _ ρ σ H _ _ hs.rdAll hw fun ts vs H1 h1 s1 x1 => ?_
  rw [List.append_nil]
  obtain ⟨S, rs, s⟩ := hs.same s1
  refine spT_pure x1 h1.1.symm h1.2 fun n t v H2 S' F0 h2 s2 own hS hF nd hd => ?_
  exact hq n t ρ v F0 H2 h2.2 ⟨S, rs, s.pushF s2 (own.anyS h2.1 S) nd hF⟩
/-! ### operators on held values -/
theorem Sta.last2 {K : PySem.W.Frag} {f : Fm} {τ : List Root} {ρ : List Ent} {σ : St} {H : Hp} {n : Nat} {t : T} {v : V} {F : List Addr} (s : Sta K f (τ ++ [tmp n t v F]) ρ σ H) : Shr K H (fun _ => True) t v := by
  obtain ⟨S, rs, s⟩ := s
  have g : (rs ++ (τ ++ [tmp n t v F]))[(rs ++ τ).length]? = some (tmp n t v F) := by rw [← List.append_assoc]; exact getElem?_last
  obtain ⟨v', e, own⟩ := (s.good.slot _ _ g).1
  have e := Option.some.inj e
  subst e
  exact own.shr (fun _ _ => trivial) (fun _ _ => trivial)
def v2 (g : F2) (va vb : List Ent → (Nat → T → List Ent → Prop) → Prop) : List Ent → (Nat → T → List Ent → Prop) → Prop := fun ρ R => va ρ fun _ x ρ1 => vb ρ1 fun _ y ρ2 => g x y fun z => z.flat = true ∧ R 0 z ρ2
theorem vtwo {ta tb : TE} (ka : ∀ (f : Fm) (τ : List Root) (ρ : List Ent) (σ : St) (H : Hp) (Q : VK) (R : Nat → T → List Ent → Prop), Sta X.K f τ ρ σ H → va ρ R → (∀ n t ρ' v F H', R n t ρ' → Sta X.K f (τ ++ [tmp n t v F]) ρ' σ H' → Q v H') → ta σ H Q)
    (kb : ∀ (f : Fm) (τ : List Root) (ρ : List Ent) (σ : St) (H : Hp) (Q : VK) (R : Nat → T → List Ent → Prop), Sta X.K f τ ρ σ H → vb ρ R → (∀ n t ρ' v F H', R n t ρ' → Sta X.K f (τ ++ [tmp n t v F]) ρ' σ H' → Q v H') → tb σ H Q)
    {r : R2} {g : F2} (hg : OpT X.K r g) {f : Fm} {τ : List Root} {ρ : List Ent} {σ : St} {H : Hp} {Q : VK} {R : Nat → T → List Ent → Prop} (hs : Sta X.K f τ ρ σ H) (hw : v2 g va vb ρ R) (hq : ∀ n t ρ' v F H', R n t ρ' → Sta X.K f (τ ++ [tmp n t v F]) ρ' σ H' → Q v H') : tOp r ta tb σ H Q := by
  refine ka f τ ρ σ H _ _ hs hw fun n t ρ1 v1 F1 H1 h1 s1 => ?_
  refine kb f (τ ++ [tmp n t v1 F1]) ρ1 σ H1 _ _ s1 h1 fun n2 u ρ2 v3 F2 H2 h2 s2 => ?_
  refine hg _ H2 v1 v3 t u Q _ s2.pop.last2 s2.last2 h2 fun z v4 H3 h3 s3 x3 => ?_
  obtain ⟨S, rs, s⟩ := s2.pop.pop.same s3
  exact hq 0 z ρ2 v4 [] H3 h3.2 ⟨S, rs, s.pushS ((x3.flat0 h3.1).2 0 S)⟩
theorem tv_op {op : Operator} {r : R2} {g : F2} (ho : OpR X (binaryOp op) r) (hg : OpT X.K r g) (ha : TVE X a va) (hb : TVE X b vb) : TVE X (.BinOp a op b pos) (v2 g va vb) := by
  obtain ⟨ta, pa, ka⟩ := ha.ok
  obtain ⟨tb, pb, kb⟩ := hb.ok
  exact ⟨⟨_, pe_op ho pa pb, fun f τ ρ σ H Q R hs hw hq => vtwo ka kb hg hs hw hq⟩⟩
theorem tv_cmp {op : CmpOp} {r : R2} {g : F2} (ho : OpR X (compareOp op) r) (hg : OpT X.K r g) (ha : TVE X a va) (hb : TVE X b vb) (hm : behindInMarks op b = false) : TVE X (.Compare a [op] [b] pos) (v2 g va vb) := by
  obtain ⟨ta, pa, ka⟩ := ha.ok
  obtain ⟨tb, pb, kb⟩ := hb.ok
  exact ⟨⟨_, pe_cmpR ho pa pb hm, fun f τ ρ σ H Q R hs hw hq => vtwo ka kb hg hs hw hq⟩⟩
def v1 (g : F1) (va : List Ent → (Nat → T → List Ent → Prop) → Prop) : List Ent → (Nat → T → List Ent → Prop) → Prop := fun ρ R => va ρ fun _ x ρ1 => g x fun z => z.flat = true ∧ R 0 z ρ1
theorem tv_un {op : UnaryOp} {r : V → Hp → VK → Prop} {g : F1} (ho : UnR X (unaryOp op) r) (hg : UnT X.K r g) (ha : TVE X a va) : TVE X (.UnaryOp op a pos) (v1 g va) := by
  obtain ⟨ta, pa, ka⟩ := ha.ok
  refine ⟨⟨_, pe_un ho pa, fun f τ ρ σ H Q R hs hw hq => ?_⟩⟩
  refine ka f τ ρ σ H _ _ hs hw fun n t ρ1 v1 F1 H1 h1 s1 => ?_
  refine hg _ H1 v1 t Q _ s1.last2 h1 fun z v4 H3 h3 s3 x3 => ?_
  obtain ⟨S, rs, s⟩ := s1.pop.same s3
  exact hq 0 z ρ1 v4 [] H3 h3.2 ⟨S, rs, s.pushS ((x3.flat0 h3.1).2 0 S)⟩
/-- a built-in call on held values -/
theorem tms_shrs {K : PySem.W.Frag} {S : Addr → Prop} {H : Hp} {rs : List Root} (G : ∀ (i : Nat) r, rs[i]? = some r → SlotR K H S r.e r.o r.F) : ∀ {ks : List Nat} {ts : List T} {vs : List V} {ms : List Root}, Tms ks ts vs ms → (∀ r ∈ ms, ∃ i : Nat, rs[i]? = some r) → Shrs K H (fun _ => True) ts vs
  | _, _, _, _, .nil, _ => .nil
  | _, _, _, _, .cons h, hm => by
    obtain ⟨i, hi⟩ := hm _ List.mem_cons_self
    obtain ⟨v', e, own⟩ := G i _ hi
    have e := Option.some.inj e
    subst e
    exact Shrs.cons (own.shr (fun _ _ => trivial) (fun _ _ => trivial)) (tms_shrs G h fun r hr => hm r (List.mem_cons_of_mem _ hr))
theorem Sta.shrs {K : PySem.W.Frag} {f : Fm} {τ ms : List Root} {ρ : List Ent} {σ : St} {H : Hp} {ks : List Nat} {ts : List T} {vs : List V} (s : Sta K f (τ ++ ms) ρ σ H) (hm : Tms ks ts vs ms) : Shrs K H (fun _ => True) ts vs := by
  obtain ⟨S, rs, s⟩ := s
  refine tms_shrs (rs := rs ++ (τ ++ ms)) (fun i r e => (s.good.slot i r e).1) hm fun r hr => ?_
  exact List.mem_iff_getElem?.mp (List.mem_append_right _ (List.mem_append_right _ hr))
variable {ks : List Nat} {vA : List Ent → (List T → List Ent → Prop) → Prop}
def vCa (g : List T → (T → Prop) → Prop) (vA : List Ent → (List T → List Ent → Prop) → Prop) : List Ent → (Nat → T → List Ent → Prop) → Prop := fun ρ R => vA ρ fun ts ρ' => g ts fun z => z.flat = true ∧ R 0 z ρ'
theorem tv_callTy {x : Str} {id : String} {r : List V → Hp → VK → Prop} {g : List T → (T → Prop) → Prop} (hc : CallR X (.type id) r) (hgv : CaT X.K r g) (hg : Gl X x) (hm : X.mg x = none) (hv : bootBuiltins x = some (.type id)) (ha : TVA X ks (e :: es) vA) (hn : x ≠ "__name__" := by decide) (hdb : (x == ("__debug__" : Str)) = false := by decide)
    (he : starEach (e :: es) X.env = (false, eval e X.env) :: starEach es X.env := by rfl) (hpl : (backTo pos (starEach es X.env)).any (·.1) = false := by rfl) : TVE X (.Call (.Name x p) (e :: es) [] pos) (vCa g vA) := by
  obtain ⟨ta, pa, ka⟩ := ha.ok
  refine ⟨⟨_, pe_callTy hc hg hm hv pa hn hdb he hpl, fun f τ ρ σ H Q R hs hw hq => ?_⟩⟩
  refine ka f τ ρ σ H _ _ hs hw fun ts ρ' vs ms H1 h1 hm s1 => ?_
  refine hgv _ H1 vs ts Q _ (s1.shrs hm) h1 fun z v4 H3 h3 s3 x3 => ?_
  obtain ⟨S, rs, s⟩ := s1.pop.same s3
  exact hq 0 z ρ' v4 [] H3 h3.2 ⟨S, rs, s.pushS ((x3.flat0 h3.1).2 0 S)⟩
theorem tv_callB {x : Str} {id : String} {r : List V → Hp → VK → Prop} {g : List T → (T → Prop) → Prop} (hc : CallR X (.builtin id) r) (hgv : CaT X.K r g) (hg : Gl X x) (hm : X.mg x = none) (hv : bootBuiltins x = some (.builtin id)) (ha : TVA X ks (e :: es) vA) (hn : x ≠ "__name__" := by decide) (hdb : (x == ("__debug__" : Str)) = false := by decide)
    (he : starEach (e :: es) X.env = (false, eval e X.env) :: starEach es X.env := by rfl) (hpl : (backTo pos (starEach es X.env)).any (·.1) = false := by rfl) : TVE X (.Call (.Name x p) (e :: es) [] pos) (vCa g vA) := by
  obtain ⟨ta, pa, ka⟩ := ha.ok
  refine ⟨⟨_, pe_callB hc hg hm hv pa hn hdb he hpl, fun f τ ρ σ H Q R hs hw hq => ?_⟩⟩
  refine ka f τ ρ σ H _ _ hs hw fun ts ρ' vs ms H1 h1 hm s1 => ?_
  refine hgv _ H1 vs ts Q _ (s1.shrs hm) h1 fun z v4 H3 h3 s3 x3 => ?_
  obtain ⟨S, rs, s⟩ := s1.pop.same s3
  exact hq 0 z ρ' v4 [] H3 h3.2 ⟨S, rs, s.pushS ((x3.flat0 h3.1).2 0 S)⟩
/-- an item of a held list: the item alone is kept -/
def vIx (va vb : List Ent → (Nat → T → List Ent → Prop) → Prop) : List Ent → (Nat → T → List Ent → Prop) → Prop := fun ρ R => va ρ fun n x ρ1 => vb ρ1 fun _ y ρ2 => match x, y with
    | .nd .lst ts, .int i => match atI ts i with
      | some z => R (n - 1) z ρ2
      | none => False
    | .tup ts, .int i => match atI ts i with
      | some z => z.flat = true ∧ R 0 z ρ2
      | none => False
    | _, _ => False
theorem tv_ix (ha : TVE X a va) (hb : TVE X b vb) (hs : PlainIx b) : TVE X (.Subscript a b pos) (vIx va vb) := by
  obtain ⟨ta, pa, ka⟩ := ha.ok
  obtain ⟨tb, pb, kb⟩ := hb.ok
  refine ⟨⟨_, pe_ix ix_seq pa pb hs, fun f τ ρ σ H Q R hs hw hq => ?_⟩⟩
  refine ka f τ ρ σ H _ _ hs hw fun n t ρ1 v1 F1 H1 h1 s1 => ?_
  refine kb f (τ ++ [tmp n t v1 F1]) ρ1 σ H1 _ _ s1 h1 fun n2 u ρ2 v3 F2 H2 h2 s2 => ?_
  cases t using T.cs with
  | lst ts =>
    cases u with
    | int i =>
      have eu := shr_int s2.last2
      subst eu
      have s3 := s2.pop
      obtain ⟨S, rs, s⟩ := s3
      have gt : (rs ++ (τ ++ [tmp n (.lst ts) v1 F1]))[(rs ++ τ).length]? = some (tmp n (.lst ts) v1 F1) := by rw [← List.append_assoc]; exact getElem?_last
      obtain ⟨⟨v', e, own⟩, nd, q⟩ := s.good.slot _ _ gt
      have e := Option.some.inj e
      subst e
      simp only at h2
      split at h2
      · rename_i z hz
        have : ∃ (vs : List V) (p : Addr), v1 = .ref p ∧ SqL X.K H2 p vs ∧ ∃ vz Fz, atI vs i = some vz ∧ Own X.K H2 S (n - 1) z vz Fz ∧ (∀ b ∈ Fz, b ∈ F1) ∧ Fz.Nodup := by
          cases own with
          | @snd _ a vs ts q1 r =>
            obtain ⟨vz, e1, e2⟩ := shrs_at r hz
            exact ⟨vs, _, rfl, (sqN_lst.mp q1).sq, vz, [], e1, e2, (fun _ z => nomatch z), List.nodup_nil⟩
          | @nd n _ a o vs ts F q0 ki r =>
            have q1 : H2 a = some (.lst vs) := by
              obtain rfl : o = .lst vs := ki
              exact q0
            unfold atI at hz
            cases q2 : ixN ts.length i with
            | none => rw [q2] at hz; cases hz
            | some j =>
              rw [q2] at hz
              have hz : ts[j]? = some z := hz
              obtain ⟨vz, hvz⟩ := r.get hz
              obtain ⟨G1, Fi, G2, rfl, o, _⟩ := r.split hz hvz
              refine ⟨vs, a, rfl, SqL.of q1, vz, Fi, ?_, o, fun b hb => by simp [hb], ?_⟩
              · unfold atI
                rw [← r.length, q2]; exact hvz
              · exact (List.nodup_append.mp (List.nodup_append.mp (List.nodup_cons.mp nd).2).1).2.1
        obtain ⟨vs, p, rfl, hsq, vz, Fz, e1, o, hsub, ndz⟩ := this
        refine .inl ⟨p, vs, i, vz, rfl, rfl, hsq, e1, ?_⟩
        refine hq (n - 1) z ρ2 vz Fz H2 h2 ⟨S, rs, ⟨s.e, s.o, ?_, s.al, s.io, tm_app (fun r h => s.tm r (List.mem_append_left _ h)) ⟨_, _, rfl⟩⟩⟩
        rw [← List.append_assoc]
        have kr : ∀ G, Kp H2 H2 S G := fun _ => kp_refl
        refine s.good.repl (fun m => m) (rs ++ τ).length (r' := tmp (n - 1) z vz Fz) getElem?_last (fun m' q' hm h => ?_) (fun _ _ _ _ _ _ _ _ _ _ z => z) ⟨vz, rfl, o⟩ ndz (fun b hb => q b (hsub b hb))
          (fun b hb m' q' hm _ h => s.good.dj _ _ _ _ gt h (Ne.symm hm) b (hsub b hb)) (fun _ z => z) (fun m' q' hm _ h b hb => ((s.good.slot _ _ h).2.2 b hb).1) (fun m' q' hm _ _ => ⟨kr _, fun _ _ => kp_refl⟩) s.good.trk s.good.fr s.good.src
        right
        rcases app_old h with ⟨e1, _⟩ | ⟨_, e1⟩
        · exact absurd e1 hm
        · rw [← List.append_assoc]; exact getElem?_app e1
      · exact h2.elim
    | _ => exact h2.elim
  | tup ts =>
    cases u with
    | int i =>
      have eu := shr_int s2.last2
      subst eu
      have x1 := s2.pop.last2
      obtain ⟨p, vs, rfl, q, r⟩ := shr_tup x1
      simp only at h2
      split at h2
      · rename_i z hz
        obtain ⟨vz, e1, e2⟩ := shrs_at r hz
        refine .inr (.inl ⟨p, vs, i, vz, rfl, rfl, q, e1, ?_⟩)
        obtain ⟨S, rs, s⟩ := s2.pop.pop
        exact hq 0 z ρ2 vz [] H2 h2.2 ⟨S, rs, s.pushS ((e2.flat0 h2.1).2 0 S)⟩
      · exact h2.elim
    | _ => exact h2.elim
  | _ => exact h2.elim
end
end TL
set_option Elab.async false
set_option linter.all false
set_option maxRecDepth 100000
namespace TL
open PySem PySem.Spec PyProof.Rows L2
section
variable {X : Cx} {W : WX} {e a b c : Expr} {es rest : List Expr} {pos p p2 pos' : Pos} {w wa wb : List Ent → (T → Prop) → Prop} {v va vb : List Ent → (Nat → T → List Ent → Prop) → Prop} {wt : List Ent → (Bool → Prop) → Prop} {vt vt2 : List Ent → (Bool → List Ent → Prop) → Prop}
/-! ### tests -/
def tP (wt : List Ent → (Bool → Prop) → Prop) : List Ent → (Bool → List Ent → Prop) → Prop := fun ρ R => wt ρ fun b => R b ρ
theorem tvt_p (h : TPT X e wt) : TVT X e (tP wt) := by
  obtain ⟨ta, pa, ka⟩ := h.ok
  refine ⟨⟨ta, pa, fun f τ ρ σ H Q R hs hw hq => ?_⟩⟩
  exact ka _ ρ σ H _ _ hs.rdAll hw fun b H1 h1 s1 => hq b ρ H1 h1 (hs.same s1)
def vT (v : List Ent → (Nat → T → List Ent → Prop) → Prop) : List Ent → (Bool → List Ent → Prop) → Prop := fun ρ R => v ρ fun _ t ρ' => asB t fun b => R b ρ'
theorem tvt_val (ha : TVE X a va) (he : ∀ whole, isTrue a X.env whole = (do let v ← whole; standAt a.pos; holding [v] (truthy v)) := by intro _; rfl) : TVT X a (vT va) := by
  obtain ⟨ta, pa, ka⟩ := ha.ok
  refine ⟨⟨_, pt_val pa he, fun f τ ρ σ H Q R hs hw hq => ka f τ ρ σ H _ _ hs hw fun n t ρ1 v1 F1 H1 h1 s1 => ?_⟩⟩
  obtain ⟨k, e, h⟩ := asB_ok s1.last2 h1
  exact ⟨k, e, hq k ρ1 H1 h s1.pop⟩
theorem tvt_cmp {op : CmpOp} {r : R2} {g : F2} (ho : OpR X (compareOp op) r) (hg : OpT X.K r g) (ha : TVE X a va) (hb : TVE X b vb) (hm : behindInMarks op b = false) : TVT X (.Compare a [op] [b] pos) (vT (v2 g va vb)) := by
  obtain ⟨ta, pa, ka⟩ := ha.ok
  obtain ⟨tb, pb, kb⟩ := hb.ok
  refine ⟨⟨_, pt_cmpR ho pa pb hm, fun f τ ρ σ H Q R hs hw hq => vtwo (va := va) (vb := vb) ka kb hg hs (R := fun _ t ρ' => asB t fun b => R b ρ') hw fun n t ρ1 v1 F1 H1 h1 s1 => ?_⟩⟩
  obtain ⟨k, e, h⟩ := asB_ok s1.last2 h1
  exact ⟨k, e, hq k ρ1 H1 h s1.pop⟩
def vAnd (w1 w2 : List Ent → (Bool → List Ent → Prop) → Prop) : List Ent → (Bool → List Ent → Prop) → Prop := fun ρ R => w1 ρ fun b ρ1 => if b = true then w2 ρ1 R else R false ρ1
def vOr (w1 w2 : List Ent → (Bool → List Ent → Prop) → Prop) : List Ent → (Bool → List Ent → Prop) → Prop := fun ρ R => w1 ρ fun b ρ1 => if b = true then R true ρ1 else w2 ρ1 R
def vNot (w1 : List Ent → (Bool → List Ent → Prop) → Prop) : List Ent → (Bool → List Ent → Prop) → Prop := fun ρ R => w1 ρ fun b ρ1 => R (!b) ρ1
theorem TVW.pt (h : TVW X e vt) : TVT X e vt := by
  obtain ⟨ta, pa, ka⟩ := h.ok
  exact ⟨⟨_, pa.pt, ka⟩⟩
theorem tvw_and1 (ha : TVT X a vt) : TVW X (.BoolOp .And [a] pos) vt := by
  obtain ⟨ta, pa, ka⟩ := ha.ok
  exact ⟨⟨_, pw_and1 pa, ka⟩⟩
theorem tvw_or1 (ha : TVT X a vt) : TVW X (.BoolOp .Or [a] pos) vt := by
  obtain ⟨ta, pa, ka⟩ := ha.ok
  exact ⟨⟨_, pw_or1 pa, ka⟩⟩
theorem tvw_and (ha : TVT X a vt) (hb : TVW X (.BoolOp .And (b :: rest) pos) vt2) : TVW X (.BoolOp .And (a :: b :: rest) pos) (vAnd vt vt2) := by
  obtain ⟨ta, pa, ka⟩ := ha.ok
  obtain ⟨tb, pb, kb⟩ := hb.ok
  refine ⟨⟨_, pw_and pa pb, fun f τ ρ σ H Q R hs hw hq => ?_⟩⟩
  refine ka f τ ρ σ H _ _ hs hw fun k ρ1 H1 h1 s1 => ?_
  cases k with
  | true => exact kb f τ ρ1 σ H1 _ _ s1 h1 hq
  | false => exact hq false ρ1 H1 h1 s1
theorem tvw_or (ha : TVT X a vt) (hb : TVW X (.BoolOp .Or (b :: rest) pos) vt2) : TVW X (.BoolOp .Or (a :: b :: rest) pos) (vOr vt vt2) := by
  obtain ⟨ta, pa, ka⟩ := ha.ok
  obtain ⟨tb, pb, kb⟩ := hb.ok
  refine ⟨⟨_, pw_or pa pb, fun f τ ρ σ H Q R hs hw hq => ?_⟩⟩
  refine ka f τ ρ σ H _ _ hs hw fun k ρ1 H1 h1 s1 => ?_
  cases k with
  | true => exact hq true ρ1 H1 h1 s1
  | false => exact kb f τ ρ1 σ H1 _ _ s1 h1 hq
theorem tvt_not (ha : TVT X a vt) : TVT X (.UnaryOp .Not a pos) (vNot vt) := by
  obtain ⟨ta, pa, ka⟩ := ha.ok
  refine ⟨⟨_, pt_not pa, fun f τ ρ σ H Q R hs hw hq => ?_⟩⟩
  exact ka f τ ρ σ H _ _ hs hw fun k ρ1 H1 h1 s1 => hq (!k) ρ1 H1 h1 s1
def vIf (vt : List Ent → (Bool → List Ent → Prop) → Prop) (va vb : List Ent → (Nat → T → List Ent → Prop) → Prop) : List Ent → (Nat → T → List Ent → Prop) → Prop := fun ρ R => vt ρ fun k ρ1 => if k = true then va ρ1 R else vb ρ1 R
theorem tv_if (hc : TVT X c vt) (ha : TVE X a va) (hb : TVE X b vb) : TVE X (.IfExp c a b pos) (vIf vt va vb) := by
  obtain ⟨tc, pc, kc⟩ := hc.ok
  obtain ⟨ta, pa, ka⟩ := ha.ok
  obtain ⟨tb, pb, kb⟩ := hb.ok
  refine ⟨⟨_, pe_ifExp pc pa pb, fun f τ ρ σ H Q R hs hw hq => ?_⟩⟩
  refine kc f τ ρ σ H _ _ hs hw fun k ρ1 H1 h1 s1 => ?_
  cases k with
  | true => exact ka f τ ρ1 σ H1 _ _ s1 h1 hq
  | false => exact kb f τ ρ1 σ H1 _ _ s1 h1 hq
end
/-! ### statements -/
section
variable {X : Cx} {W : WX} {e a b c : Expr} {st : Stmt} {sts ss bs : List Stmt} {pos p p2 pos' : Pos} {w wa wb : List Ent → (T → Prop) → Prop} {v va vb : List Ent → (Nat → T → List Ent → Prop) → Prop} {vt : List Ent → (Bool → List Ent → Prop) → Prop} {u u1 u2 : TEnds → List Ent → Prop}
def uNext : TEnds → List Ent → Prop := fun De ρ => De.nx ρ
def uSeq (u1 u2 : TEnds → List Ent → Prop) : TEnds → List Ent → Prop := fun De ρ => u1 { De with nx := u2 De } ρ
theorem ts_nil : TSs X W [] uNext := ⟨⟨_, pss_nil, fun f τ ρ σ H De D hs hl hw => hl.nx ρ σ H hw hs⟩⟩
theorem ts_cons (h1 : TS1 X W st u1) (h2 : TSs X W sts u2) : TSs X W (st :: sts) (uSeq u1 u2) := by
  obtain ⟨t1, p1, k1⟩ := h1.ok
  obtain ⟨t2, p2, k2⟩ := h2.ok
  refine ⟨⟨_, pss_cons p1 p2, fun f τ ρ σ H De D hs hl hw => ?_⟩⟩
  exact k1 f τ ρ σ H { De with nx := u2 De } _ hs ⟨fun ρ σ H h s => k2 f τ ρ σ H De D s hl h, hl.rt, hl.bk, hl.ct, hl.xc⟩ hw
theorem ts_one (h1 : TS1 X W st u1) : TSs X W [st] u1 := by
  obtain ⟨t1, p1, k1⟩ := h1.ok
  exact ⟨⟨_, pss_one p1, k1⟩⟩
/-- a slot's list is from now on only read -/
def demE (js : List Nat) (ρ : List Ent) : List Ent := js.foldl (fun (ρ : List Ent) (j : Nat) => match ρ[j]? with
  | some (Ent.ow _ t) => setE ρ j (Ent.ow 0 t)
  | _ => ρ) ρ
theorem Sta.dem1 {K : PySem.W.Frag} {f : Fm} {τ : List Root} {ρ : List Ent} {σ : St} {H : Hp} (s : Sta K f τ ρ σ H) {j n : Nat} {t : T} (he : ρ[j]? = some (.ow n t)) : Sta K f τ (setE ρ j (.ow 0 t)) σ H := by
  obtain ⟨S, rs, s⟩ := s
  obtain ⟨v, F, rs', h1, s'⟩ := s.moveV he
  obtain ⟨F', S', _, s''⟩ := s'.fitV (k := 0) (.inl (Nat.zero_le _))
  have hj : j < (setE ρ j .no).length := by unfold setE killA; simp; exact (List.getElem?_eq_some_iff.mp he).1
  have z := s''.setV (i := j) hj
  have e1 : setE (setE ρ j .no) j (.ow 0 t) = setE ρ j (.ow 0 t) := by
    unfold setE killA
    rw [List.map_set, List.map_map, List.set_set]
    congr 1
    refine List.map_congr_left fun x _ => ?_
    show noAl j (noAl j x) = noAl j x
    rcases noAl_cases j x with h | ⟨k, t, h, h2⟩
    · rw [h, h]
    · rw [h2]; rfl
  have e2 : σ.set j (some v) = σ := set_self h1
  rw [e1, e2] at z
  exact ⟨S', _, z⟩
theorem Sta.dem {K : PySem.W.Frag} {f : Fm} {τ : List Root} {σ : St} {H : Hp} : ∀ (js : List Nat) {ρ : List Ent}, Sta K f τ ρ σ H → Sta K f τ (demE js ρ) σ H
  | [], _, s => s
  | j :: js, ρ, s => by
    unfold demE
    rw [List.foldl_cons]
    refine Sta.dem js ?_
    split
    · rename_i n t he
      exact s.dem1 he
    · exact s
def uDem (js : List Nat) (u : TEnds → List Ent → Prop) : TEnds → List Ent → Prop := fun De ρ => u De (demE js ρ)
theorem ts_dem (js : List Nat) (h : TSs X W sts u) : TSs X W sts (uDem js u) := by
  obtain ⟨t1, p1, k1⟩ := h.ok
  exact ⟨⟨_, p1, fun f τ ρ σ H De D hs hl hw => k1 f τ _ σ H De D (hs.dem js) hl hw⟩⟩
theorem ts1_dem (js : List Nat) (h : TS1 X W st u) : TS1 X W st (uDem js u) := by
  obtain ⟨t1, p1, k1⟩ := h.ok
  exact ⟨⟨_, p1, fun f τ ρ σ H De D hs hl hw => k1 f τ _ σ H De D (hs.dem js) hl hw⟩⟩
theorem ts_pass : TS1 X W (.Pass pos) uNext := ⟨⟨_, ps_pass, fun f τ ρ σ H De D hs hl hw => hl.nx ρ σ H hw hs⟩⟩
def uBrk : TEnds → List Ent → Prop := fun De ρ => De.bk ρ
theorem ts_break : TS1 X W (.Break pos) (uBrk) := ⟨⟨_, ps_break, fun f τ ρ σ H De D hs hl hw => hl.bk ρ σ H hw hs⟩⟩
def uCnt : TEnds → List Ent → Prop := fun De ρ => De.ct ρ
theorem ts_cont : TS1 X W (.Continue pos) (uCnt) := ⟨⟨_, ps_continue, fun f τ ρ σ H De D hs hl hw => hl.ct ρ σ H hw hs⟩⟩
def uNev : TEnds → List Ent → Prop := fun _ _ => False
theorem ts_never : TS1 X W st (uNev) := ⟨⟨_, ps_never, fun f τ ρ σ H De D hs hl hw => hw.elim⟩⟩
theorem tss_never : TSs X W sts (uNev) := ⟨⟨_, pss_never, fun f τ ρ σ H De D hs hl hw => hw.elim⟩⟩
def uRet (v : List Ent → (Nat → T → List Ent → Prop) → Prop) : TEnds → List Ent → Prop := fun De ρ => v ρ De.rt
theorem ts_ret (he : TVE X e v) : TS1 X W (.Return (some e) pos) (uRet v) := by
  obtain ⟨t1, p1, k1⟩ := he.ok
  exact ⟨⟨_, ps_ret p1, fun f τ ρ σ H De D hs hl hw => k1 f τ ρ σ H _ _ hs hw fun n t ρ' v F H' h s => hl.rt n t ρ' σ v F H' h s⟩⟩
def uRetN : TEnds → List Ent → Prop := fun De ρ => De.rt 0 .non ρ
theorem ts_retN : TS1 X W (.Return none pos) (uRetN) := by
  refine ⟨⟨_, ps_retN, fun f τ ρ σ H De D hs hl hw => ?_⟩⟩
  obtain ⟨S, rs, s⟩ := hs
  exact hl.rt 0 .non ρ σ .non [] H hw ⟨S, rs, s.pushS .non⟩
def uExp (v : List Ent → (Nat → T → List Ent → Prop) → Prop) : TEnds → List Ent → Prop := fun De ρ => v ρ fun _ _ ρ' => De.nx ρ'
theorem ts_expr (he : TVE X e v) (hs : swapsWith e none pos.line X.env = pure false := by rfl) : TS1 X W (.Expr e pos) (uExp v) := by
  obtain ⟨t1, p1, k1⟩ := he.ok
  exact ⟨⟨_, ps_expr p1 hs, fun f τ ρ σ H De D hs hl hw => k1 f τ ρ σ H _ _ hs hw fun n t ρ' v F H' h s => hl.nx ρ' σ H' h s.pop⟩⟩
def uExpP (w : List Ent → (T → Prop) → Prop) : TEnds → List Ent → Prop := fun De ρ => w ρ fun _ => De.nx ρ
theorem ts_exprP (he : TPE X e w) (hs : swapsWith e none pos.line X.env = pure false := by rfl) : TS1 X W (.Expr e pos) (uExpP w) := by
  obtain ⟨t1, p1, k1⟩ := he.ok
  exact ⟨⟨_, ps_expr p1 hs, fun f τ ρ σ H De D hs hl hw => k1 _ ρ σ H _ _ hs.rdAll hw fun t v H' h s x => hl.nx ρ σ H' h (hs.same s)⟩⟩
theorem setE_len {ρ : List Ent} {i : Nat} {e : Ent} : (setE ρ i e).length = ρ.length := by unfold setE killA; simp
def uSet (i : Nat) (v : List Ent → (Nat → T → List Ent → Prop) → Prop) : TEnds → List Ent → Prop := fun De ρ => v ρ fun n t ρ' => i < ρ'.length ∧ De.nx (setE ρ' i (.ow n t))
/-- name = value -/
theorem ts_set (i : Nat) {x : Str} (hN : X.N.Nodup) (hi : X.N[i]? = some x) (hx : Loc X.env.scope x) (he : TVE X e v) (hs : swapsWith e (some (.Name x pos')) pos.line X.env = pure false := by rfl) (hf : X.fn x = true ∨ X.env.scope.names.lookup x = some .local := by first | exact .inl rfl | exact .inr rfl | assumption) :
    TS1 X W (.Assign [.Name x pos'] e pos) (uSet i v) := by
  obtain ⟨t1, p1, k1⟩ := he.ok
  refine ⟨⟨_, ps_set hN hi hx p1 hs hf, fun f τ ρ σ H De D hs hl hw => k1 f τ ρ σ H _ _ hs hw fun n t ρ' v F H' h s => ?_⟩⟩
  exact hl.nx _ _ H' h.2 (s.setV h.1)
def uSetR (i : Nat) (w : List Ent → (T → Prop) → Prop) : TEnds → List Ent → Prop := fun De ρ => w ρ fun t => i < ρ.length ∧ De.nx (setE ρ i (.ro t))
/-- name = something to be read for a while -/
theorem ts_setR (i : Nat) {x : Str} (hN : X.N.Nodup) (hi : X.N[i]? = some x) (hx : Loc X.env.scope x) (he : TPE X e w) (hs : swapsWith e (some (.Name x pos')) pos.line X.env = pure false := by rfl) (hf : X.fn x = true ∨ X.env.scope.names.lookup x = some .local := by first | exact .inl rfl | exact .inr rfl | assumption) :
    TS1 X W (.Assign [.Name x pos'] e pos) (uSetR i w) := by
  obtain ⟨t1, p1, k1⟩ := he.ok
  refine ⟨⟨_, ps_set hN hi hx p1 hs hf, fun f τ ρ σ H De D hs hl hw => k1 _ ρ σ H _ _ hs.rdAll hw fun t v H' h s1 x1 => ?_⟩⟩
  obtain ⟨S, rs, s⟩ := hs.same s1
  exact hl.nx _ _ H' h.2 ⟨S, _, s.setE0 h.1 ⟨rfl, v, rfl, x1.mono fun _ _ => trivial⟩ (fun _ _ z => nomatch z) (fun _ _ _ z => nomatch z)⟩
def uIf (vt : List Ent → (Bool → List Ent → Prop) → Prop) (u1 : TEnds → List Ent → Prop) (u2 : TEnds → List Ent → Prop) : TEnds → List Ent → Prop := fun De ρ => vt ρ fun k ρ1 => if k = true then u1 De ρ1 else u2 De ρ1
theorem ts_if (hc : TVT X c vt) (ha : TSs X W ss u1) (hb : TSs X W bs u2) : TS1 X W (.If c ss bs pos) (uIf vt u1 u2) := by
  obtain ⟨tc, pc, kc⟩ := hc.ok
  obtain ⟨ta, pa, ka⟩ := ha.ok
  obtain ⟨tb, pb, kb⟩ := hb.ok
  refine ⟨⟨_, ps_if pc pa pb, fun f τ ρ σ H De D hs hl hw => ?_⟩⟩
  refine kc f τ ρ σ H _ _ hs hw fun k ρ1 H1 h1 s1 => ?_
  cases k with
  | true => exact ka f τ ρ1 σ H1 De D s1 hl h1
  | false => exact kb f τ ρ1 σ H1 De D s1 hl h1
/-- while, by a word over the slots and a number that falls -/
def uWhile (vt : List Ent → (Bool → List Ent → Prop) → Prop) (ub : TEnds → List Ent → Prop) : TEnds → List Ent → Prop := fun De ρ => ∃ I : Nat → List Ent → Prop, (∃ m, I m ρ) ∧ ∀ m ρ, I m ρ → vt ρ fun k ρ1 =>
  if k = true then ub { De with nx := fun ρ' => ∃ m', m' < m ∧ I m' ρ', ct := fun ρ' => ∃ m', m' < m ∧ I m' ρ', bk := De.nx } ρ1 else De.nx ρ1
theorem ts_while (hp : PassesOwn (model X.prog X.w) X.A X.env X.xe) (hc : TVT X c vt) (hb : TSs X W bs u) : TS1 X W (.While c bs [] pos) (uWhile vt u) := by
  obtain ⟨tc, pc, kc⟩ := hc.ok
  obtain ⟨tb, pb, kb⟩ := hb.ok
  refine ⟨⟨_, ps_while hp pc pb, fun f τ ρ σ H De D hs hl hw => ?_⟩⟩
  obtain ⟨I, ⟨m0, i0⟩, hI⟩ := hw
  refine ⟨fun m σ H => ∃ ρ, I m ρ ∧ Sta X.K f τ ρ σ H, ⟨m0, ρ, i0, hs⟩, fun m σ H ⟨ρ, im, s⟩ => ?_⟩
  refine kc f τ ρ σ H _ _ s (hI m ρ im) fun k ρ1 H1 h1 s1 => ?_
  cases k with
  | true =>
    rw [if_pos rfl] at h1 ⊢
    refine ⟨fun σ' H' => ∃ m', m' < m ∧ ∃ ρ, I m' ρ ∧ Sta X.K f τ ρ σ' H', fun σ' H' h => h, ?_⟩
    refine kb f τ ρ1 σ H1 { De with nx := fun ρ' => ∃ m', m' < m ∧ I m' ρ', ct := fun ρ' => ∃ m', m' < m ∧ I m' ρ', bk := De.nx } _ s1 ⟨?_, hl.rt, hl.nx, ?_, hl.xc⟩ h1
    · exact fun ρ σ H h s => let ⟨m', hm, h⟩ := h; ⟨m', hm, ρ, h, s⟩
    · exact fun ρ σ H h s => let ⟨m', hm, h⟩ := h; ⟨m', hm, ρ, h, s⟩
  | false => exact hl.nx ρ1 σ H1 h1 s1
/-! ### targets -/
/-- only these slots differ -/
def Offs (js : List Nat) (σ σ' : St) : Prop := σ'.length = σ.length ∧ ∀ m, m ∉ js → σ'[m]? = σ[m]?
theorem Offs.refl {js : List Nat} {σ : St} : Offs js σ σ := ⟨rfl, fun _ _ => rfl⟩
theorem Offs.set {i : Nat} {σ : St} {v : V} : Offs [i] σ (σ.set i (some v)) := ⟨List.length_set, fun m h => List.getElem?_set_ne (fun e => h (by simp [e]))⟩
theorem Offs.trans {js ks : List Nat} {σ σ1 σ2 : St} (a : Offs js σ σ1) (b : Offs ks σ1 σ2) : Offs (js ++ ks) σ σ2 := ⟨b.1.trans a.1, fun m h => by
  rw [List.mem_append, not_or] at h
  exact (b.2 m h.2).trans (a.2 m h.1)⟩
theorem Offs.mono {js ks : List Nat} {σ σ1 : St} (a : Offs js σ σ1) (h : ∀ j ∈ js, j ∈ ks) : Offs ks σ σ1 := ⟨a.1, fun m z => a.2 m fun y => z (h m y)⟩
structure TTg (X : Cx) (tg : Expr) (js : List Nat) (g : T → List Ent → (List Ent → Prop) → Prop) : Prop where
  ok : ∃ gg : TG, PG X tg gg ∧ ∀ (f : Fm) (τ : List Root) (ρ : List Ent) (σ : St) (H : Hp) (S : Addr → Prop) (rs : List Root) (t : T) (v : V) (Q : St → Hp → Prop) (R : List Ent → Prop), StaW X.K f τ ρ σ H S rs → Shr X.K H S t v → g t ρ R → (∀ ρ' σ' rs', R ρ' → Offs js σ σ' → StaW X.K f τ ρ' σ' H S rs' → Q σ' H) → gg v σ H Q
structure TTgs (X : Cx) (tgs : List Expr) (js : List Nat) (g : List T → List Ent → (List Ent → Prop) → Prop) : Prop where
  ok : ∃ gg : TGs, PGs X tgs gg ∧ ∀ (f : Fm) (τ : List Root) (ρ : List Ent) (σ : St) (H : Hp) (S : Addr → Prop) (rs : List Root) (ts : List T) (vs : List V) (Q : St → Hp → Prop) (R : List Ent → Prop), StaW X.K f τ ρ σ H S rs → Shrs X.K H S ts vs → g ts ρ R → (∀ ρ' σ' rs', R ρ' → Offs js σ σ' → StaW X.K f τ ρ' σ' H S rs' → Q σ' H) → gg vs σ H Q
def hName (i : Nat) : T → List Ent → (List Ent → Prop) → Prop := fun t ρ R => i < ρ.length ∧ R (setE ρ i (.ow 0 t))
theorem tg_name (i : Nat) {x : Str} (hN : X.N.Nodup) (hi : X.N[i]? = some x) (hx : Loc X.env.scope x) (hf : X.fn x = true ∨ X.env.scope.names.lookup x = some .local := by first | exact .inl rfl | exact .inr rfl | assumption) : TTg X (.Name x pos) [i] (hName i) := by
  refine ⟨⟨_, pg_name hN hi hx hf, fun f τ ρ σ H S rs t v Q R s hv hg hq => ?_⟩⟩
  exact hq _ _ _ hg.2 .set ((s.pushS hv).setV hg.1)
def hNil : List T → List Ent → (List Ent → Prop) → Prop := fun ts ρ R => match ts with
  | [] => R ρ
  | _ => False
def hCons (g : T → List Ent → (List Ent → Prop) → Prop) (gs : List T → List Ent → (List Ent → Prop) → Prop) : List T → List Ent → (List Ent → Prop) → Prop := fun ts ρ R => match ts with
  | t :: ts => g t ρ fun ρ' => gs ts ρ' R
  | _ => False
theorem tgs_nil : TTgs X [] [] hNil := by
  refine ⟨⟨_, pgs_nil, fun f τ ρ σ H S rs ts vs Q R s hv hg hq => ?_⟩⟩
  cases ts with
  | nil => cases hv; exact ⟨rfl, hq _ _ _ hg .refl s⟩
  | cons _ _ => exact hg.elim
theorem tgs_cons {js ks : List Nat} {tg : Expr} {tgs : List Expr} {g : T → List Ent → (List Ent → Prop) → Prop} {gs : List T → List Ent → (List Ent → Prop) → Prop} (h1 : TTg X tg js g) (h2 : TTgs X tgs ks gs) (hs : (assignEach (tg :: tgs) X.env).map (·.2) = assign tg X.env :: (assignEach tgs X.env).map (·.2) := by rfl) : TTgs X (tg :: tgs) (js ++ ks) (hCons g gs) := by
  obtain ⟨g1, p1, k1⟩ := h1.ok
  obtain ⟨g2, p2, k2⟩ := h2.ok
  refine ⟨⟨_, pgs_cons p1 p2 hs, fun f τ ρ σ H S rs ts vs Q R s hv hg hq => ?_⟩⟩
  cases ts with
  | nil => exact hg.elim
  | cons t ts =>
    obtain ⟨v, r, rfl, a, b⟩ := hv.uncons
    exact ⟨v, r, rfl, k1 f τ ρ σ H S rs t v _ _ s a hg fun ρ' σ' rs' h1 o1 s1 => k2 f τ ρ' σ' H S rs' ts r Q R s1 b h1 fun ρ2 σ2 rs2 h2 o2 s2 => hq ρ2 σ2 rs2 h2 (o1.trans o2) s2⟩
def hTup (gs : List T → List Ent → (List Ent → Prop) → Prop) : T → List Ent → (List Ent → Prop) → Prop := fun t ρ R => match t with
  | .tup ts => gs ts ρ R
  | _ => False
theorem tg_tup {js : List Nat} {tgs : List Expr} {k n : Nat} {gs : List T → List Ent → (List Ent → Prop) → Prop} (hc : X.calm = true) (h : TTgs X tgs js gs) (hlen : ∀ ts ρ R, gs ts ρ R → ts.length = n) (hn : (assignEach tgs X.env).length = n := by rfl) (hst : (assignEach tgs X.env).findIdx? (·.1) = none := by rfl) : TTg X (.Tuple tgs k pos) js (hTup gs) := by
  obtain ⟨g1, p1, k1⟩ := h.ok
  refine ⟨⟨_, pg_tup hc p1 hn hst, fun f τ ρ σ H S rs t v Q R s hv hg hq => ?_⟩⟩
  cases t using T.cs <;> first | exact hg.elim | skip
  obtain ⟨a, vs, rfl, q, r⟩ := shr_tup hv
  exact ⟨a, vs, rfl, q, by rw [← r.length]; exact hlen _ _ _ hg, k1 f τ ρ σ H S rs _ vs Q R s r hg hq⟩
/-- two names -/
theorem h2_len {i j : Nat} : ∀ ts ρ R, hCons (hName i) (hCons (hName j) hNil) ts ρ R → ts.length = 2 := by
  intro ts ρ R h
  match ts, h with
  | [], h => exact h.elim
  | [_], h => exact h.2.elim
  | [_, _], _ => rfl
  | _ :: _ :: _ :: _, h => exact (h.2.2.elim)
theorem h3_len {i j k : Nat} : ∀ ts ρ R, hCons (hName i) (hCons (hName j) (hCons (hName k) hNil)) ts ρ R → ts.length = 3 := by
  intro ts ρ R h
  match ts, h with
  | [], h => exact h.elim
  | [_], h => exact h.2.elim
  | [_, _], h => exact h.2.2.elim
  | [_, _, _], _ => rfl
  | _ :: _ :: _ :: _ :: _, h => exact (h.2.2.2.elim)
end
end TL
set_option Elab.async false
set_option linter.all false
set_option maxRecDepth 100000
namespace TL
open PySem PySem.Spec PyProof.Rows L2
section
variable {K : PySem.W.Frag} {f : Fm} {S S' : Addr → Prop} {H H' : Hp} {τ ms : List Root} {ρ : List Ent} {σ : St}
/-- a temporary from within forgotten -/
theorem Sta.mid {r : Root} (s : Sta K f (τ ++ ms ++ [r]) ρ σ H) : Sta K f (τ ++ [r]) ρ σ H := by
  obtain ⟨S, rs, s⟩ := s
  refine ⟨S, rs, s.e, s.o, ?_, s.al, s.io, fun q hq => s.tm q ?_⟩
  · refine s.good.pick (fun m => if m < (rs ++ τ).length then m else m + ms.length) (fun m q e => ?_) fun m l r q e1 e2 _ _ z => ?_
    · right
      rw [← List.append_assoc] at e
      have e0 : rs ++ (τ ++ ms ++ [r]) = (rs ++ τ) ++ (ms ++ [r]) := by simp
      rw [e0]
      by_cases hm : m < (rs ++ τ).length
      · rw [if_pos hm, List.getElem?_append_left hm]
        rw [List.getElem?_append_left hm] at e
        exact e
      · rw [if_neg hm]
        rw [List.getElem?_append_right (by omega)] at e ⊢
        have hl := (List.getElem?_eq_some_iff.mp e).1
        rw [List.length_singleton] at hl
        have em : m = (rs ++ τ).length := by omega
        rw [em] at e ⊢
        rw [Nat.sub_self] at e
        have e3 : (rs ++ τ).length + ms.length - (rs ++ τ).length = ms.length := by omega
        rw [e3, List.getElem?_append_right (Nat.le_refl _), Nat.sub_self]
        exact e
    · have l1 := (List.getElem?_eq_some_iff.mp e1).1
      have l2 := (List.getElem?_eq_some_iff.mp e2).1
      rw [← List.append_assoc, List.length_append, List.length_singleton] at l1 l2
      by_cases c1 : m < (rs ++ τ).length
      · by_cases c2 : l < (rs ++ τ).length
        · rw [if_pos c1, if_pos c2] at z; exact z
        · rw [if_pos c1, if_neg c2] at z; omega
      · by_cases c2 : l < (rs ++ τ).length
        · rw [if_neg c1, if_pos c2] at z; omega
        · omega
  · rcases List.mem_append.mp hq with z | z
    · exact List.mem_append_left _ (List.mem_append_left _ z)
    · exact List.mem_append_right _ z
theorem tms_sh {G : List Root} (hG : ∀ r ∈ G, SlotR K H S r.e r.o r.F) : ∀ {ks : List Nat} {ts : List T} {vs : List V} {ms : List Root}, Tms ks ts vs ms → (∀ m ∈ ks, m = 0) → (∀ r ∈ ms, r ∈ G) → ms = shRoots ts vs
  | _, _, _, _, .nil, _, _ => rfl
  | _, _, _, _, .cons (k := k) (t := t) (v := v) (F := F) h, hk, hr => by
    have e := hk k (List.mem_cons_self)
    subst e
    have z := hG _ (hr _ List.mem_cons_self)
    obtain ⟨v', e1, o⟩ := z
    have eF : F = [] := o.zero
    subst eF
    rw [tms_sh hG h (fun m hm => hk m (List.mem_cons_of_mem _ hm)) (fun r hr' => hr r (List.mem_cons_of_mem _ hr'))]
    rfl
theorem Sta.shm {ks : List Nat} {ts : List T} {vs : List V} (s : Sta K f (τ ++ ms) ρ σ H) (h : Tms ks ts vs ms) (hk : ∀ m ∈ ks, m = 0) : ms = shRoots ts vs := by
  obtain ⟨S, rs, s⟩ := s
  refine tms_sh (K := K) (S := S) (H := H) (G := rs ++ (τ ++ ms)) (fun r hr => ?_) h hk fun r hr => by simp [hr]
  obtain ⟨i, hi⟩ := List.mem_iff_getElem?.mp hr
  exact (s.good.slot i r hi).1
theorem shRoots_mem : ∀ {us : List T} {vs : List V}, us.length = vs.length → ∀ {i : Nat} {u : T} {v : V}, us[i]? = some u → vs[i]? = some v → tmp 0 u v [] ∈ shRoots us vs
  | [], _, _, i, u, v, h, _ => by simp at h
  | u0 :: us, [], h, _, _, _, _, _ => by simp at h
  | u0 :: us, v0 :: vs, h, 0, u, v, h1, h2 => by
    cases Option.some.inj h1; cases Option.some.inj h2
    exact List.mem_cons_self
  | u0 :: us, v0 :: vs, h, i + 1, u, v, h1, h2 => List.mem_cons_of_mem _ (shRoots_mem (by simpa using h) (by simpa using h1) (by simpa using h2))
theorem shRoots_shrs {G : List Root} (hG : ∀ r ∈ G, SlotR K H S r.e r.o r.F) : ∀ {us : List T} {vs : List V}, us.length = vs.length → (∀ r ∈ shRoots us vs, r ∈ G) → Shrs K H S us vs
  | [], [], _, _ => .nil
  | [], _ :: _, h, _ => by simp at h
  | _ :: _, [], h, _ => by simp at h
  | u :: us, v :: vs, h, hr => by
    obtain ⟨v', e1, o⟩ := hG _ (hr _ List.mem_cons_self)
    have e : v = v' := Option.some.inj e1
    subst e
    exact .cons o (shRoots_shrs hG (by simpa using h) fun r hr' => hr r (List.mem_cons_of_mem _ hr'))
theorem StaW.shr {us : List T} {vs : List V} {τ' : List Root} {rs : List Root} (s : StaW K f (τ ++ shRoots us vs ++ τ') ρ σ H S rs) (hl : us.length = vs.length) : Shrs K H S us vs :=
  shRoots_shrs (G := rs ++ (τ ++ shRoots us vs ++ τ')) (fun r hr => by
    obtain ⟨i, hi⟩ := List.mem_iff_getElem?.mp hr
    exact (s.good.slot i r hi).1) hl fun r hr => by simp [hr]
end
/-! ### what is walked -/
structure ItH (K : PySem.W.Frag) (J : It) (us : List T) (vs : List V) (ts : List T) : Prop where
  len : us.length = vs.length
  goes : ∀ i H S, Shrs K H S us vs → i < ts.length → J.go i H
  stops : ∀ H S, Shrs K H S us vs → J.stop ts.length H
  yields : ∀ i H S x H', i < ts.length → Shrs K H S us vs → J.yld i H x H' → ∃ t, ts[i]? = some t ∧ Same H H' ∧ Shr K H' (fresh S H) t x
structure TIt (X : Cx) (tg : Expr) (it : Expr) (wi : List Ent → (List T → List Ent → Prop) → Prop) : Prop where
  ok : ∃ ti : TI, PI X tg it ti ∧ ∀ (f : Fm) (τ : List Root) (ρ : List Ent) (σ : St) (H : Hp) (Q : It → Hp → Prop) (R : List T → List Ent → Prop), Sta X.K f τ ρ σ H → wi ρ R →
    (∀ J us vs ts ρ1 H1, R ts ρ1 → ItH X.K J us vs ts → Sta X.K f (τ ++ shRoots us vs) ρ1 σ H1 → Q J H1) → ti σ H Q
section
variable {K : PySem.W.Frag}
theorem ith_lst {a : Addr} {ts : List T} : ItH K (Itl K a) [.lst ts] [.ref a] ts := by
  have inv : ∀ {H S}, Shrs K H S [.lst ts] [.ref a] → ∃ xs, SqL K H a xs ∧ Shrs K H S ts xs := fun {H S} h => by
    obtain ⟨v, e, q⟩ := shrs1 h
    cases e
    obtain ⟨a', vs, e, q, r⟩ := shr_lst q
    cases e
    exact ⟨vs, q.sq, r⟩
  refine ⟨rfl, fun i H S h hi => ?_, fun H S h => ?_, fun i H S x H' hi h y => ?_⟩
  · obtain ⟨xs, q, r⟩ := inv h
    exact walk_list.goes i H (by rw [← r.length]; exact hi) q
  · obtain ⟨xs, q, r⟩ := inv h
    rw [r.length]
    exact walk_list.stops H q
  · obtain ⟨xs, q, r⟩ := inv h
    obtain ⟨e, y2⟩ := walk_list.yields i H x H' (by rw [← r.length]; exact hi) q y
    subst e
    have e1 : ts[i]? = some ts[i] := List.getElem?_eq_getElem hi
    obtain ⟨v, h1, h2⟩ := r.get e1
    rw [y2] at h1; cases h1
    exact ⟨_, e1, Same.refl _, h2.mono fun _ => .inl⟩
theorem ith_scr {a : Addr} {ns : List Int} : ItH K (Itl K a) [.scr ns] [.ref a] (ns.map T.int) := by
  have inv : ∀ {H S}, Shrs K H S [.scr ns] [.ref a] → SqL K H a (ns.map V.int) := fun {H S} h => by
    obtain ⟨v, e, q⟩ := shrs1 h
    cases e
    obtain ⟨a', e, q⟩ := shr_scr q
    cases e
    exact q.sq
  refine ⟨rfl, fun i H S h hi => ?_, fun H S h => ?_, fun i H S x H' hi h y => ?_⟩
  · have q := inv h
    exact walk_list.goes i H (by rw [List.length_map] at hi ⊢; exact hi) q
  · have q := inv h
    have z := walk_list.stops H q
    rw [List.length_map] at z ⊢
    exact z
  · have q := inv h
    obtain ⟨e, y2⟩ := walk_list.yields i H x H' (by rw [List.length_map] at hi ⊢; exact hi) q y
    subst e
    rw [List.getElem?_map] at y2
    cases e1 : ns[i]? with
    | none => rw [e1] at y2; cases y2
    | some n =>
      rw [e1] at y2
      cases y2
      exact ⟨.int n, by rw [List.getElem?_map, e1]; rfl, Same.refl _, .int n⟩
theorem ith_tup {a : Addr} {ts : List T} : ItH K (Itt K a) [.tup ts] [.ref a] ts := by
  have inv : ∀ {H S}, Shrs K H S [.tup ts] [.ref a] → ∃ xs, SqT K H a xs ∧ Shrs K H S ts xs := fun {H S} h => by
    obtain ⟨v, e, q⟩ := shrs1 h
    cases e
    obtain ⟨a', vs, e, q, r⟩ := shr_tup q
    cases e
    exact ⟨vs, q, r⟩
  refine ⟨rfl, fun i H S h hi => ?_, fun H S h => ?_, fun i H S x H' hi h y => ?_⟩
  · obtain ⟨xs, q, r⟩ := inv h
    exact walk_tup.goes i H (by rw [← r.length]; exact hi) q
  · obtain ⟨xs, q, r⟩ := inv h
    rw [r.length]
    exact walk_tup.stops H q
  · obtain ⟨xs, q, r⟩ := inv h
    obtain ⟨e, y2⟩ := walk_tup.yields i H x H' (by rw [← r.length]; exact hi) q y
    subst e
    have e1 : ts[i]? = some ts[i] := List.getElem?_eq_getElem hi
    obtain ⟨v, h1, h2⟩ := r.get e1
    rw [y2] at h1; cases h1
    exact ⟨_, e1, Same.refl _, h2.mono fun _ => .inl⟩
/-- lo, lo + 1, .. -/
def rgT (lo : Int) (n : Nat) : List T := (List.range n).map fun (i : Nat) => T.int (lo + i)
theorem rgT_len {lo : Int} {n : Nat} : (rgT lo n).length = n := by unfold rgT; simp
theorem rgT_get {lo : Int} {n i : Nat} {t : T} : (rgT lo n)[i]? = some t ↔ i < n ∧ t = .int (lo + i) := by
  unfold rgT
  rw [List.getElem?_map]
  by_cases h : i < n
  · rw [List.getElem?_range h]
    simp [h, eq_comm]
  · rw [List.getElem?_eq_none (by simpa using h)]
    simp [h]
theorem ith_rng {lo : Int} {n : Nat} : ItH K (Itr lo n) [] [] (rgT lo n) := by
  refine ⟨rfl, fun i H S h hi => ?_, fun H S h => ?_, fun i H S x H' hi h y => ?_⟩
  · rw [rgT_len] at hi; exact walk_range.goes i H hi trivial
  · rw [rgT_len]; exact walk_range.stops H trivial
  · rw [rgT_len] at hi
    obtain ⟨e, y2⟩ := walk_range.yields i H x H' hi trivial y
    subst e; subst y2
    exact ⟨_, rgT_get.mpr ⟨hi, rfl⟩, Same.refl _, .int _⟩
/-- pairs newly made -/
theorem pair_shr {H H' : Hp} {S : Addr → Prop} {x y : V} {t u : T} {p : Addr} (hp : H p = none) (e : H' = upd H p (.tup [x, y])) (a : Shr K H S t x) (b : Shr K H S u y) : Same H H' ∧ Shr K H' (fresh S H) (.tup [t, u]) (.ref p) := by
  subst e
  have hs : Same H (upd H p (.tup [x, y])) := fun b o e => by rw [upd_ne (ne_of_none e hp)]; exact e
  refine ⟨hs, .tup0 (SqT.of upd_same) ?_⟩
  exact Owns.keep (fun _ z => .inl z) (Shrs.cons a (Shrs.cons b .nil)) (.same hs)
def enT (ts : List T) : List T := ts.mapIdx fun i t => .tup [.int i, t]
theorem enT_get {ts : List T} {i : Nat} {t : T} : (enT ts)[i]? = some t ↔ ∃ u, ts[i]? = some u ∧ t = .tup [.int i, u] := by
  unfold enT
  rw [List.getElem?_mapIdx]
  cases ts[i]? <;> simp [eq_comm]
theorem ith_enum {a : Addr} {ts : List T} : ItH K (Ite K a) [.lst ts] [.ref a] (enT ts) := by
  have inv : ∀ {H S}, Shrs K H S [.lst ts] [.ref a] → ∃ xs, SqL K H a xs ∧ Shrs K H S ts xs := fun {H S} h => by
    obtain ⟨v, e, q⟩ := shrs1 h
    cases e
    obtain ⟨a', vs, e, q, r⟩ := shr_lst q
    cases e
    exact ⟨vs, q.sq, r⟩
  have hl : (enT ts).length = ts.length := by unfold enT; simp
  refine ⟨rfl, fun i H S h hi => ?_, fun H S h => ?_, fun i H S x H' hi h y => ?_⟩
  · obtain ⟨xs, q, r⟩ := inv h
    exact walk_enum.goes i H (by rw [← r.length, ← hl]; exact hi) q
  · obtain ⟨xs, q, r⟩ := inv h
    rw [hl, r.length]
    exact walk_enum.stops H q
  · obtain ⟨xs, q, r⟩ := inv h
    obtain ⟨p, x1, y1, e1, e2, e3, e4, e5⟩ := walk_enum.yields i H x H' (by rw [← r.length, ← hl]; exact hi) q y
    rw [hl] at hi
    have g1 : ts[i]? = some ts[i] := List.getElem?_eq_getElem hi
    obtain ⟨v, h1, h2⟩ := r.get g1
    have e5 : xs[i]? = some y1 := e5
    rw [e5] at h1; cases h1
    cases e4
    subst e1
    obtain ⟨a1, a2⟩ := pair_shr (t := .int (i : Nat)) e2 e3 (.int _) h2
    exact ⟨_, enT_get.mpr ⟨_, g1, rfl⟩, a1, a2⟩
def zpT (ts us : List T) : List T := List.zipWith (fun t u => .tup [t, u]) ts us
theorem zpT_get {ts us : List T} {i : Nat} {t : T} : (zpT ts us)[i]? = some t ↔ ∃ a b, ts[i]? = some a ∧ us[i]? = some b ∧ t = .tup [a, b] := by
  unfold zpT
  rw [List.getElem?_zipWith]
  cases ts[i]? <;> cases us[i]? <;> simp [eq_comm]
theorem ith_zip {a b : Addr} {ts us : List T} : ItH K (Itz K a b) [.lst ts, .lst us] [.ref a, .ref b] (zpT ts us) := by
  have inv : ∀ {H S}, Shrs K H S [.lst ts, .lst us] [.ref a, .ref b] → ∃ xs ys, SqL K H a xs ∧ Shrs K H S ts xs ∧ SqL K H b ys ∧ Shrs K H S us ys := fun {H S} h => by
    obtain ⟨v, v2, e, q, q2⟩ := shrs2 h
    cases e
    obtain ⟨a', vs, e, q, r⟩ := shr_lst q
    cases e
    obtain ⟨a', ws, e, q2, r2⟩ := shr_lst q2
    cases e
    exact ⟨vs, ws, q.sq, r, q2.sq, r2⟩
  have hl : (zpT ts us).length = min ts.length us.length := by unfold zpT; simp
  refine ⟨rfl, fun i H S h hi => ?_, fun H S h => ?_, fun i H S x H' hi h y => ?_⟩
  · obtain ⟨xs, ys, q, r, q2, r2⟩ := inv h
    exact (walk_zip (xs := xs) (ys := ys) (by rw [← r.length, ← r2.length, hl])).goes i H hi ⟨q, q2⟩
  · obtain ⟨xs, ys, q, r, q2, r2⟩ := inv h
    exact (walk_zip (xs := xs) (ys := ys) (by rw [← r.length, ← r2.length, hl])).stops H ⟨q, q2⟩
  · obtain ⟨xs, ys, q, r, q2, r2⟩ := inv h
    obtain ⟨p, x1, y1, e1, e2, e3, e4, e5⟩ := (walk_zip (xs := xs) (ys := ys) (by rw [← r.length, ← r2.length, hl])).yields i H x H' hi ⟨q, q2⟩ y
    rw [hl] at hi
    have g1 : ts[i]? = some (ts[i]'(by omega)) := List.getElem?_eq_getElem (by omega)
    have g2 : us[i]? = some (us[i]'(by omega)) := List.getElem?_eq_getElem (by omega)
    obtain ⟨v, h1, h2⟩ := r.get g1
    have e4 : xs[i]? = some x1 := e4
    have e5 : ys[i]? = some y1 := e5
    rw [e4] at h1; cases h1
    obtain ⟨v, h1, h3⟩ := r2.get g2
    rw [e5] at h1; cases h1
    subst e1
    obtain ⟨a1, a2⟩ := pair_shr e2 e3 h2 h3
    exact ⟨_, zpT_get.mpr ⟨_, _, g1, g2, rfl⟩, a1, a2⟩
end
theorem Sta.fit0 {K : PySem.W.Frag} {f : Fm} {τ : List Root} {ρ : List Ent} {σ : St} {H : Hp} {n : Nat} {t : T} {v : V} {F : List Addr} (s : Sta K f (τ ++ [tmp n t v F]) ρ σ H) : Sta K f (τ ++ shRoots [t] [v]) ρ σ H := by
  obtain ⟨S, rs, s⟩ := s
  obtain ⟨F', S', _, s'⟩ := s.fitV (k := 0) (.inl (Nat.zero_le _))
  have s2 : Sta K f (τ ++ [tmp 0 t v F']) ρ σ H := ⟨S', rs, s'⟩
  have e := s2.shm (ks := [0]) (ts := [t]) (vs := [v]) (.cons .nil) (by simp)
  rw [← e]
  exact s2
theorem Sta.shr1 {K : PySem.W.Frag} {f : Fm} {τ : List Root} {ρ : List Ent} {σ : St} {H : Hp} {us : List T} {vs : List V} (s : Sta K f (τ ++ shRoots us vs) ρ σ H) (hl : us.length = vs.length) : ∃ S, Shrs K H S us vs := by
  obtain ⟨S, rs, s⟩ := s
  refine ⟨S, ?_⟩
  have s : StaW K f (τ ++ shRoots us vs ++ []) ρ σ H S rs := by rw [List.append_nil]; exact s
  exact s.shr hl
section
variable {X : Cx} {W : WX} {tg it e a b c : Expr} {es : List Expr} {pos p p2 tpos : Pos} {elts : List Expr} {kk : Nat} {ks : List Nat} {v va vb : List Ent → (Nat → T → List Ent → Prop) → Prop} {vA : List Ent → (List T → List Ent → Prop) → Prop} {wA : List Ent → (List T → Prop) → Prop}
def iLst (v : List Ent → (Nat → T → List Ent → Prop) → Prop) : List Ent → (List T → List Ent → Prop) → Prop := fun ρ R => v ρ fun _ t ρ1 => match t with
  | .nd .lst ts => R ts ρ1
  | .scr ns => R (ns.map T.int) ρ1
  | _ => False
theorem ti_lst (h : TVE X e v) : TIt X tg e (iLst v) := by
  obtain ⟨te, pe, ke⟩ := h.ok
  refine ⟨⟨_, pi_list pe, fun f τ ρ σ H Q R hs hw hq => ?_⟩⟩
  refine ke f τ ρ σ H _ _ hs hw fun n t ρ' v F H1 h1 s1 => ?_
  have s2 := s1.fit0
  obtain ⟨S, sh⟩ := s2.shr1 rfl
  obtain ⟨v', e, q⟩ := shrs1 sh
  cases e
  cases t using T.cs <;> first | exact h1.elim | skip
  · obtain ⟨a, vs, rfl, q, r⟩ := shr_lst q
    exact ⟨a, rfl, ⟨vs, q.sq⟩, hq _ _ _ _ _ _ h1 ith_lst s2⟩
  · obtain ⟨a, rfl, q2⟩ := shr_scr q
    exact ⟨a, rfl, ⟨_, q2.sq⟩, hq _ _ _ _ _ _ h1 ith_scr s2⟩
def iTup (v : List Ent → (Nat → T → List Ent → Prop) → Prop) : List Ent → (List T → List Ent → Prop) → Prop := fun ρ R => v ρ fun _ t ρ1 => match t with
  | .tup ts => R ts ρ1
  | _ => False
theorem ti_tup (h : TVE X e v) : TIt X tg e (iTup v) := by
  obtain ⟨te, pe, ke⟩ := h.ok
  refine ⟨⟨_, pi_tup pe, fun f τ ρ σ H Q R hs hw hq => ?_⟩⟩
  refine ke f τ ρ σ H _ _ hs hw fun n t ρ' v F H1 h1 s1 => ?_
  have s2 := s1.fit0
  obtain ⟨S, sh⟩ := s2.shr1 rfl
  obtain ⟨v', e, q⟩ := shrs1 sh
  cases e
  cases t using T.cs <;> first | exact h1.elim | skip
  obtain ⟨a, vs, rfl, q, r⟩ := shr_tup q
  exact ⟨a, rfl, ⟨vs, q⟩, hq _ _ _ _ _ _ h1 ith_tup s2⟩
variable {wa wb wc : List Ent → (T → Prop) → Prop}
def iRng1 (wa : List Ent → (T → Prop) → Prop) : List Ent → (List T → List Ent → Prop) → Prop := fun ρ R => wa ρ fun t => match t with
  | .int j => -(2 ^ 62) ≤ j ∧ j < 2 ^ 62 ∧ R (rgT 0 j.toNat) ρ
  | _ => False
def iRng2 (wa wb : List Ent → (T → Prop) → Prop) : List Ent → (List T → List Ent → Prop) → Prop := fun ρ R => wa ρ fun t => wb ρ fun u => match t, u with
  | .int i, .int j => (-(2 ^ 62) ≤ i ∧ i < 2 ^ 62 ∧ -(2 ^ 62) ≤ j ∧ j < 2 ^ 62) ∧ R (rgT i (j - i).toNat) ρ
  | _, _ => False
theorem ti_rng1 (hg : Gl X "range") (hm : X.mg "range" = none) (ha : TPE X a wa) (hs : starEach [a] X.env = [(false, eval a X.env)] := by rfl) : TIt X tg (.Call (.Name "range" p) [a] [] pos) (iRng1 wa) := by
  obtain ⟨ta, pa, ka⟩ := (tpa_cons ha tpa_nil hs).ok
  refine ⟨⟨_, pi_range1 hg hm pa hs, fun f τ ρ σ H Q R h1 hw hq => ?_⟩⟩
  refine ka _ ρ σ H _ (fun ts => ∃ j : Int, ts = [.int j] ∧ -(2 ^ 62) ≤ j ∧ j < 2 ^ 62 ∧ R (rgT 0 j.toNat) ρ) h1.rdAll ?_ fun ts vs H1 h2 s1 x1 => ?_
  · show wa ρ fun t => (∃ j : Int, [t] = [T.int j] ∧ -(2 ^ 62) ≤ j ∧ j < 2 ^ 62 ∧ R (rgT 0 j.toNat) ρ)
    have e : (fun t : T => (∃ j : Int, [t] = [T.int j] ∧ -(2 ^ 62) ≤ j ∧ j < 2 ^ 62 ∧ R (rgT 0 j.toNat) ρ)) = fun t => match t with | .int j => -(2 ^ 62) ≤ j ∧ j < 2 ^ 62 ∧ R (rgT 0 j.toNat) ρ | _ => False := by
      funext t
      cases t using T.cs <;> simp
    rw [e]
    exact hw
  · obtain ⟨j, rfl, h4, h5, h6⟩ := h2
    obtain ⟨v, rfl, x⟩ := shrs1 x1
    exact ⟨j, by rw [shr_int x], h4, h5, hq _ [] [] _ _ _ h6 ith_rng (by rw [show shRoots [] [] = [] from rfl, List.append_nil]; exact h1.same s1)⟩
theorem ti_rng2 (hg : Gl X "range") (hm : X.mg "range" = none) (ha : TPE X a wa) (hb : TPE X b wb) (hs : starEach [a, b] X.env = [(false, eval a X.env), (false, eval b X.env)] := by rfl) (hs2 : starEach [b] X.env = [(false, eval b X.env)] := by rfl) : TIt X tg (.Call (.Name "range" p) [a, b] [] pos) (iRng2 wa wb) := by
  obtain ⟨ta, pa, ka⟩ := (tpa_cons ha (tpa_cons hb tpa_nil hs2) (by rw [hs, hs2])).ok
  refine ⟨⟨_, pi_range2 hg hm pa hs hs2, fun f τ ρ σ H Q R h1 hw hq => ?_⟩⟩
  refine ka _ ρ σ H _ (fun ts => ∃ i j : Int, ts = [.int i, .int j] ∧ (-(2 ^ 62) ≤ i ∧ i < 2 ^ 62 ∧ -(2 ^ 62) ≤ j ∧ j < 2 ^ 62) ∧ R (rgT i (j - i).toNat) ρ) h1.rdAll ?_ fun ts vs H1 h2 s1 x1 => ?_
  · show wa ρ fun t => wb ρ fun u => (∃ i j : Int, [t, u] = [T.int i, T.int j] ∧ (-(2 ^ 62) ≤ i ∧ i < 2 ^ 62 ∧ -(2 ^ 62) ≤ j ∧ j < 2 ^ 62) ∧ R (rgT i (j - i).toNat) ρ)
    have e : (fun t : T => wb ρ fun u => (∃ i j : Int, [t, u] = [T.int i, T.int j] ∧ (-(2 ^ 62) ≤ i ∧ i < 2 ^ 62 ∧ -(2 ^ 62) ≤ j ∧ j < 2 ^ 62) ∧ R (rgT i (j - i).toNat) ρ)) = fun t => wb ρ fun u => match t, u with | .int i, .int j => (-(2 ^ 62) ≤ i ∧ i < 2 ^ 62 ∧ -(2 ^ 62) ≤ j ∧ j < 2 ^ 62) ∧ R (rgT i (j - i).toNat) ρ | _, _ => False := by
      funext t
      congr 1
      funext u
      cases t using T.cs <;> cases u using T.cs <;> simp
      exact ⟨fun ⟨i, j, ⟨e1, e2⟩, z⟩ => by subst e1; subst e2; exact z, fun z => ⟨_, _, ⟨rfl, rfl⟩, z⟩⟩
    rw [e]
    exact hw
  · obtain ⟨i, j, rfl, h4, h6⟩ := h2
    obtain ⟨v, v2, rfl, x, y⟩ := shrs2 x1
    exact ⟨i, j, by rw [shr_int x, shr_int y], h4, hq _ [] [] _ _ _ h6 ith_rng (by rw [show shRoots [] [] = [] from rfl, List.append_nil]; exact h1.same s1)⟩
def iEn (vA : List Ent → (List T → List Ent → Prop) → Prop) : List Ent → (List T → List Ent → Prop) → Prop := fun ρ R => vA ρ fun ts ρ1 => match ts with
  | [.nd .lst us] => R (enT us) ρ1
  | _ => False
theorem ti_enum (hg : Gl X "enumerate") (hm : X.mg "enumerate" = none) (ha : TVA X [0] [e] vA) (hs : starEach [e] X.env = [(false, eval e X.env)] := by rfl) : TIt X (.Tuple elts kk tpos) (.Call (.Name "enumerate" p) [e] [] pos) (iEn vA) := by
  obtain ⟨ta, pa, ka⟩ := ha.ok
  refine ⟨⟨_, pi_enum hg hm pa hs, fun f τ ρ σ H Q R h1 hw hq => ?_⟩⟩
  refine ka f τ ρ σ H _ _ h1 hw fun ts ρ1 vs ms H1 h2 hm s1 => ?_
  have em := s1.shm hm (by simp)
  subst em
  have hl : ts.length = vs.length := by rw [hm.lens.1, hm.lens.2]
  obtain ⟨S, sh⟩ := s1.shr1 hl
  split at h2
  · obtain ⟨v, rfl, x⟩ := shrs1 sh
    obtain ⟨a, vs, rfl, q, r⟩ := shr_lst x
    exact ⟨a, vs, rfl, q.sq, hq _ _ _ _ _ _ h2 ith_enum s1⟩
  · exact h2.elim
def iZp (vA : List Ent → (List T → List Ent → Prop) → Prop) : List Ent → (List T → List Ent → Prop) → Prop := fun ρ R => vA ρ fun ts ρ1 => match ts with
  | [.nd .lst us, .nd .lst ws] => R (zpT us ws) ρ1
  | _ => False
theorem ti_zip (hg : Gl X "zip") (hm : X.mg "zip" = none) (ha : TVA X [0, 0] [a, b] vA) (hs : starEach [a, b] X.env = (false, eval a X.env) :: starEach [b] X.env := by rfl) (hpl : (backTo pos (starEach [b] X.env)).any (·.1) = false := by rfl) : TIt X (.Tuple elts kk tpos) (.Call (.Name "zip" p) [a, b] [] pos) (iZp vA) := by
  obtain ⟨ta, pa, ka⟩ := ha.ok
  refine ⟨⟨_, pi_zip hg hm pa hs hpl, fun f τ ρ σ H Q R h1 hw hq => ?_⟩⟩
  refine ka f τ ρ σ H _ _ h1 hw fun ts ρ1 vs ms H1 h2 hm s1 => ?_
  have em := s1.shm hm (by simp)
  subst em
  have hl : ts.length = vs.length := by rw [hm.lens.1, hm.lens.2]
  obtain ⟨S, sh⟩ := s1.shr1 hl
  split at h2
  · obtain ⟨v, v2, rfl, x, x2⟩ := shrs2 sh
    obtain ⟨a, vs, rfl, q, r⟩ := shr_lst x
    obtain ⟨b, ws, rfl, q2, r2⟩ := shr_lst x2
    exact ⟨a, b, vs, ws, rfl, q.sq, q2.sq, hq _ _ _ _ _ _ h2 ith_zip s1⟩
  · exact h2.elim
/-! ### for -/
variable {wi : List Ent → (List T → List Ent → Prop) → Prop} {hT : T → List Ent → (List Ent → Prop) → Prop} {u : TEnds → List Ent → Prop} {body : List Stmt}
def forOk (hT : T → List Ent → (List Ent → Prop) → Prop) (u : TEnds → List Ent → Prop) (De : TEnds) (ts : List T) (ρ1 : List Ent) : Prop := ∃ I : Nat → List Ent → Prop, I 0 ρ1 ∧
  (∀ i t ρ, ts[i]? = some t → I i ρ → hT t ρ (u { De with nx := I (i + 1), ct := I (i + 1), bk := De.nx })) ∧ ∀ ρ, I ts.length ρ → De.nx ρ
def uFor (wi : List Ent → (List T → List Ent → Prop) → Prop) (hT : T → List Ent → (List Ent → Prop) → Prop) (u : TEnds → List Ent → Prop) : TEnds → List Ent → Prop := fun De ρ => wi ρ (forOk hT u De)
theorem ts_for {js : List Nat} (hp : PassesOwn (model X.prog X.w) X.A X.env X.xe) (hc : X.calm = true) (hi : TIt X tg it wi) (hg : TTg X tg js hT) (hb : TSs X W body u) (hs : ∀ x, foldedSetIterable it X.env x = pure x := by intro _; rfl) : TS1 X W (.For tg it body [] pos) (uFor wi hT u) := by
  obtain ⟨ti, pi, ki⟩ := hi.ok
  obtain ⟨tg, pg, kg⟩ := hg.ok
  obtain ⟨tb, pb, kb⟩ := hb.ok
  refine ⟨⟨_, ps_for hp hc pi pg pb hs, fun f τ ρ σ H De D h1 hl hw => ?_⟩⟩
  refine ki f τ ρ σ H _ _ h1 hw fun J us vs ts ρ1 H1 h2 ith s1 => ?_
  obtain ⟨I, i0, hI, hend⟩ := h2
  have wk : Walk J ts.length (fun H => ∃ S, Shrs X.K H S us vs) (fun i H x H' => J.yld i H x H' ∧ ∃ S, Shrs X.K H S us vs) :=
    ⟨fun i H hi h => let ⟨S, h⟩ := h; ith.goes i H S h hi, fun H h => let ⟨S, h⟩ := h; ith.stops H S h, fun i H x H' _ h y => ⟨y, h⟩⟩
  refine for_it wk (fun i σ H => ∃ ρ, I i ρ ∧ Sta X.K f (τ ++ shRoots us vs) ρ σ H) ⟨ρ1, i0, s1⟩ (fun i σ H _ h => ?_) (fun i x σ H H' hi h y => ?_) fun σ H h => ?_
  · obtain ⟨ρ, _, s⟩ := h
    exact s.shr1 ith.len
  · obtain ⟨ρ, im, S, rs, s⟩ := h
    have s0 : StaW X.K f (τ ++ shRoots us vs ++ []) ρ σ H S rs := by rw [List.append_nil]; exact s
    obtain ⟨t, e1, sm, x1⟩ := ith.yields i H S x H' hi (s0.shr ith.len) y.1
    refine kg f (τ ++ shRoots us vs) ρ σ H' _ rs t x _ _ (s.grow sm) (shr_grown x1) (hI i t ρ e1 im) fun ρ' σ' rs' h3 _ s3 => ?_
    refine kb f (τ ++ shRoots us vs) ρ' σ' H' { De with nx := I (i + 1), ct := I (i + 1), bk := De.nx } _ ⟨_, _, s3⟩ ⟨?_, ?_, ?_, ?_, fun x ρ σ cls d H h s e => hl.xc x ρ σ cls d H h s.pop e⟩ h3
    · exact fun ρ σ H h s => ⟨ρ, h, s⟩
    · exact fun n t ρ σ v F H h s => hl.rt n t ρ σ v F H h s.mid
    · exact fun ρ σ H h s => hl.nx ρ σ H h s.pop
    · exact fun ρ σ H h s => ⟨ρ, h, s⟩
  · obtain ⟨ρ, im, s⟩ := h
    exact hl.nx ρ σ H (hend ρ im) s.pop
end
end TL
set_option Elab.async false
set_option linter.all false
set_option maxRecDepth 100000
namespace TL
open PySem PySem.Spec PyProof.Rows L2
section
variable {K : PySem.W.Frag} {f : Fm} {S S' : Addr → Prop} {H H' : Hp} {τ τ' ms : List Root} {ρ : List Ent} {σ σ' : St}
theorem Sta.perm (s : Sta K f τ ρ σ H) (g : Nat → Nat) (hg : ∀ (m : Nat) r, τ'[m]? = some r → τ[g m]? = some r) (inj : ∀ m l, m < τ'.length → l < τ'.length → g m = g l → m = l) : Sta K f τ' ρ σ H := by
  obtain ⟨S, rs, s⟩ := s
  refine ⟨S, rs, s.e, s.o, ?_, s.al, s.io, fun q hq => ?_⟩
  · refine s.good.pick (fun m => if m < rs.length then m else rs.length + g (m - rs.length)) (fun m q e => ?_) fun m l r q e1 e2 _ _ z => ?_
    · right
      by_cases hm : m < rs.length
      · rw [if_pos hm, List.getElem?_append_left hm]
        rw [List.getElem?_append_left hm] at e
        exact e
      · rw [if_neg hm, getElem?_skip]
        rw [List.getElem?_append_right (by omega)] at e
        exact hg _ _ e
    · have l1 := (List.getElem?_eq_some_iff.mp e1).1
      have l2 := (List.getElem?_eq_some_iff.mp e2).1
      rw [List.length_append] at l1 l2
      by_cases c1 : m < rs.length
      · by_cases c2 : l < rs.length
        · rw [if_pos c1, if_pos c2] at z; exact z
        · rw [if_pos c1, if_neg c2] at z; omega
      · by_cases c2 : l < rs.length
        · rw [if_neg c1, if_pos c2] at z; omega
        · rw [if_neg c1, if_neg c2] at z
          have := inj (m - rs.length) (l - rs.length) (by omega) (by omega) (by omega)
          omega
  · obtain ⟨i, hi⟩ := List.mem_iff_getElem?.mp hq
    exact s.tm q (List.mem_of_getElem? (hg i q hi))
theorem Sta.rot {r : Root} (s : Sta K f (r :: τ) ρ σ H) : Sta K f (τ ++ [r]) ρ σ H := by
  refine s.perm (fun m => if m < τ.length then m + 1 else 0) (fun m q e => ?_) fun m l h1 h2 z => ?_
  · by_cases hm : m < τ.length
    · rw [List.getElem?_append_left hm] at e
      rw [if_pos hm, List.getElem?_cons_succ]; exact e
    · rw [List.getElem?_append_right (by omega)] at e
      have hl := (List.getElem?_eq_some_iff.mp e).1
      rw [List.length_singleton] at hl
      have e0 : m - τ.length = 0 := by omega
      rw [e0] at e
      rw [if_neg hm]; exact e
  · rw [List.length_append, List.length_singleton] at h1 h2
    by_cases c1 : m < τ.length <;> by_cases c2 : l < τ.length
    · rw [if_pos c1, if_pos c2] at z; omega
    · rw [if_pos c1, if_neg c2] at z; omega
    · rw [if_neg c1, if_pos c2] at z; omega
    · omega
theorem Sta.torF {r : Root} (s : Sta K f (τ ++ [r]) ρ σ H) : Sta K f (r :: τ) ρ σ H := by
  refine s.perm (fun m => if m = 0 then τ.length else m - 1) (fun m q e => ?_) fun m l h1 h2 z => ?_
  · cases m with
    | zero => rw [if_pos rfl, getElem?_last]; exact e
    | succ m =>
      rw [List.getElem?_cons_succ] at e
      rw [if_neg (Nat.succ_ne_zero m)]
      exact getElem?_app e
  · rw [List.length_cons] at h1 h2
    by_cases c1 : m = 0 <;> by_cases c2 : l = 0
    · omega
    · rw [if_pos c1, if_neg c2] at z; omega
    · rw [if_neg c1, if_pos c2] at z; omega
    · rw [if_neg c1, if_neg c2] at z; omega
/-! ### slots set aside -/
theorem foldl_no_get (vs : List Nat) : ∀ (ρ : List Ent) (m : Nat), (vs.foldl (fun ρ j => ρ.set j .no) ρ)[m]? = if m ∈ vs then ρ[m]?.map (fun _ => Ent.no) else ρ[m]? := by
  induction vs with
  | nil => intro ρ m; simp
  | cons v vs ih =>
    intro ρ m
    rw [List.foldl_cons, ih]
    by_cases h : m ∈ vs
    · rw [if_pos h, if_pos (List.mem_cons_of_mem _ h), List.getElem?_set]
      split
      · subst_vars
        split
        · rename_i z; rw [List.getElem?_eq_getElem z]; rfl
        · rename_i z; rw [List.getElem?_eq_none (by omega)]
      · rfl
    · rw [if_neg h]
      by_cases h2 : m = v
      · subst h2
        rw [if_pos List.mem_cons_self, List.getElem?_set]
        rw [if_pos rfl]
        split
        · rename_i z; rw [List.getElem?_eq_getElem z]; rfl
        · rename_i z; rw [List.getElem?_eq_none (by omega)]; rfl
      · rw [if_neg (by simp [h, h2]), List.getElem?_set_ne (fun z => h2 z.symm)]
theorem notIn_get (vs : List Nat) (ρ : List Ent) (m : Nat) : (notIn vs ρ)[m]? = if m ∈ vs then ρ[m]?.map (fun _ => Ent.no) else ρ[m]?.map noRA := by
  unfold notIn
  rw [foldl_no_get, List.getElem?_map]
  split
  · cases ρ[m]? <;> rfl
  · rfl
theorem noRA_idem (e : Ent) : noRA (noRA e) = noRA e := by cases e <;> rfl
theorem notIn_idem (vs : List Nat) (ρ : List Ent) : notIn vs (notIn vs ρ) = notIn vs ρ := by
  apply List.ext_getElem?
  intro m
  rw [notIn_get, notIn_get]
  split
  · cases ρ[m]? <;> rfl
  · cases ρ[m]? with
    | none => rfl
    | some e => show some (noRA (noRA e)) = some (noRA e); rw [noRA_idem]
theorem notIn_nr (vs : List Nat) (ρ : List Ent) : ∀ e ∈ notIn vs ρ, (∀ t, e ≠ .ro t) ∧ ∀ j i t, e ≠ .al j i t := fun e he => by
  obtain ⟨m, hm⟩ := List.mem_iff_getElem?.mp he
  rw [notIn_get] at hm
  split at hm
  · cases q : ρ[m]? with
    | none => rw [q] at hm; cases hm
    | some x => rw [q] at hm; cases Option.some.inj hm; exact ⟨fun t z => (nomatch z), fun j i t z => (nomatch z)⟩
  · cases q : ρ[m]? with
    | none => rw [q] at hm; cases hm
    | some x =>
      rw [q] at hm
      have hm := Option.some.inj hm
      subst hm
      cases x <;> exact ⟨fun t z => (nomatch z), fun j i t z => (nomatch z)⟩
theorem Sta.notIn (vs : List Nat) (s : Sta K f τ ρ σ H) (h : Offs vs σ σ') : Sta K f τ (TL.notIn vs ρ) σ' H := by
  obtain ⟨S, rs0, s0⟩ := s
  obtain ⟨rs, s⟩ : ∃ rs, StaW K f τ (ρ.map noRA) σ H S rs := ⟨_, s0.wk noRA noRA_cases noRA_own⟩
  have hlen : rs.length = σ'.length := by rw [h.1]; exact s.lenσ
  let g : Nat → Root → Root := fun m r => if m ∈ vs then ⟨.no, (σ'[m]?).join, []⟩ else r
  have gg : ∀ m, (rs.mapIdx g)[m]? = rs[m]?.map (g m) := fun m => List.getElem?_mapIdx
  have nal : ∀ (k j i : Nat) t, (TL.notIn vs ρ)[k]? ≠ some (.al j i t) := fun k j i t z => (notIn_nr vs ρ _ (List.mem_of_getElem? z)).2 j i t rfl
  refine ⟨S, rs.mapIdx g, ?_, ?_, ?_, fun k j i t z => absurd z (nal k j i t), fun i n t z => ?_, s.tm⟩
  · apply List.ext_getElem?
    intro m
    rw [List.getElem?_map, gg, notIn_get]
    have e1 : rs[m]?.map (·.e) = ρ[m]?.map noRA := by rw [← List.getElem?_map, s.e, List.getElem?_map]
    cases q : rs[m]? with
    | none =>
      rw [q] at e1
      cases q2 : ρ[m]? with
      | none => split <;> rfl
      | some x => rw [q2] at e1; cases e1
    | some r =>
      rw [q] at e1
      cases q2 : ρ[m]? with
      | none => rw [q2] at e1; cases e1
      | some x =>
        rw [q2] at e1
        show some (g m r).e = _
        by_cases hm : m ∈ vs
        · rw [if_pos hm]
          show some (if m ∈ vs then (⟨.no, (σ'[m]?).join, []⟩ : Root) else r).e = some Ent.no
          rw [if_pos hm]
        · rw [if_neg hm]
          show some (if m ∈ vs then (⟨.no, (σ'[m]?).join, []⟩ : Root) else r).e = some (noRA x)
          rw [if_neg hm]
          exact e1
  · apply List.ext_getElem?
    intro m
    rw [List.getElem?_map, gg]
    have e1 : rs[m]?.map (·.o) = σ[m]? := by rw [← List.getElem?_map, s.o]
    cases q : rs[m]? with
    | none =>
      have : σ'.length ≤ m := by rw [← hlen]; exact List.getElem?_eq_none_iff.mp q
      rw [List.getElem?_eq_none this]; rfl
    | some r =>
      rw [q] at e1
      have hml : m < σ'.length := by rw [← hlen]; exact (List.getElem?_eq_some_iff.mp q).1
      show some (if m ∈ vs then (⟨.no, (σ'[m]?).join, []⟩ : Root) else r).o = _
      by_cases hm : m ∈ vs
      · rw [if_pos hm, List.getElem?_eq_getElem hml]; rfl
      · rw [if_neg hm, h.2 m hm]
        exact e1
  · refine s.good.pick (fun m => m) (fun m q e => ?_) fun m l r q e1 e2 _ _ z => z
    by_cases hm : m < rs.length
    · rw [List.getElem?_append_left (by simpa using hm), gg, List.getElem?_eq_getElem hm] at e
      have e := Option.some.inj e
      subst e
      by_cases hv : m ∈ vs
      · left
        show (if m ∈ vs then (⟨.no, (σ'[m]?).join, []⟩ : Root) else rs[m]).e = _ ∧ (if m ∈ vs then (⟨.no, (σ'[m]?).join, []⟩ : Root) else rs[m]).F = _
        rw [if_pos hv]; exact ⟨rfl, rfl⟩
      · right
        rw [List.getElem?_append_left hm, List.getElem?_eq_getElem hm]
        show some rs[m] = some (if m ∈ vs then (⟨.no, (σ'[m]?).join, []⟩ : Root) else rs[m])
        rw [if_neg hv]
    · right
      rw [List.getElem?_append_right (by simp; omega)] at e
      rw [List.getElem?_append_right (by omega)]
      simpa using e
  · rw [notIn_get] at z
    split at z
    · cases q : ρ[i]? with
      | none => rw [q] at z; cases z
      | some x => rw [q] at z; cases z
    · rename_i hm
      rw [h.2 i hm]
      exact s.io i n t (by rw [List.getElem?_map]; exact z)
/-- the first temporary as a slot behind the others, and back -/
theorem Sta.toSlot {n : Nat} {t : T} {v : V} {F : List Addr} (s : Sta K f (tmp n t v F :: τ) ρ σ H) : Sta K f τ (ρ ++ [.ow n t]) (σ ++ [some v]) H := by
  obtain ⟨S, rs, s⟩ := s
  refine ⟨S, rs ++ [tmp n t v F], by rw [List.map_append, s.e]; rfl, by rw [List.map_append, s.o]; rfl, ?_, fun k j i u z => ?_, fun i m u z => ?_, fun r hr => s.tm r (List.mem_cons_of_mem _ hr)⟩
  · have e : rs ++ [tmp n t v F] ++ τ = rs ++ tmp n t v F :: τ := by simp
    rw [e]; exact s.good
  · by_cases hk : k < ρ.length
    · rw [List.getElem?_append_left hk] at z
      obtain ⟨r, m, U, v0, w, Fi, a1, a2, a3, a4, a5, a6, a7⟩ := (s.al k j i u z).ex
      exact ⟨⟨r, m, U, v0, w, Fi, getElem?_app a1, a2, a3, getElem?_app a4, a5, a6, a7⟩⟩
    · rw [List.getElem?_append_right (by omega)] at z
      have := List.mem_of_getElem? z
      simp at this
  · by_cases hk : i < ρ.length
    · rw [List.getElem?_append_left hk] at z
      have hs : i < σ.length := by rw [← s.lenσ, s.len]; exact hk
      rw [List.getElem?_append_left hs]
      exact s.io i m u z
    · rw [List.getElem?_append_right (by omega)] at z
      have := List.mem_of_getElem? z
      simp at this
theorem Sta.toTmp {n : Nat} {t : T} {v : V} (s : Sta K f τ (ρ ++ [.ow n t]) (σ ++ [some v]) H) (nal : ∀ e ∈ ρ, ∀ j i t, e ≠ .al j i t) : ∃ F, Sta K f (tmp n t v F :: τ) ρ σ H := by
  obtain ⟨S, rs, s⟩ := s
  have hl : rs.length = ρ.length + 1 := by rw [s.len]; simp
  have hl2 : rs.length = σ.length + 1 := by rw [s.lenσ]; simp
  obtain ⟨rs0, r, rfl⟩ : ∃ rs0 r, rs = rs0 ++ [r] := by
    rcases List.eq_nil_or_concat rs with h | ⟨a, b, h⟩
    · rw [h] at hl; simp at hl
    · exact ⟨a, b, by rw [h, List.concat_eq_append]⟩
  have e1 := s.e
  have e2 := s.o
  rw [List.map_append] at e1 e2
  have l1 : rs0.length = ρ.length := by simpa using hl
  have l2 : rs0.length = σ.length := by simpa using hl2
  obtain ⟨a1, a2⟩ := List.append_inj e1 (by simpa using l1)
  obtain ⟨b1, b2⟩ := List.append_inj e2 (by simpa using l2)
  have er : r = tmp n t v r.F := by
    cases r with
    | mk e o F =>
      have a3 : e = .ow n t := by simpa using a2
      have b3 : o = some v := by simpa using b2
      rw [a3, b3]
  refine ⟨r.F, S, rs0, a1, b1, ?_, fun k j i u z => ?_, fun i m u z => ?_, fun q hq => ?_⟩
  · have e : rs0 ++ tmp n t v r.F :: τ = rs0 ++ [r] ++ τ := by rw [← er]; simp
    rw [e]; exact s.good
  · exact absurd rfl (nal _ (List.mem_of_getElem? z) j i u)
  · have hk := (List.getElem?_eq_some_iff.mp z).1
    have e := s.io i m u (getElem?_app z)
    rw [List.getElem?_append_left (by omega)] at e
    exact e
  · rcases List.mem_cons.mp hq with h | h
    · exact ⟨n, t, by rw [h]⟩
    · exact s.tm q h
/-- a list held grows by the value of the last temporary -/
theorem Sta.snocT {k m : Nat} {acc : List T} {D : Addr} {FD F : List Addr} {u : T} {y : V} (s : Sta K f (tmp (k + 1) (.lst acc) (.ref D) FD :: τ ++ [tmp m u y F]) ρ σ H) (hnr : ∀ e ∈ ρ, (∀ t, e ≠ .ro t) ∧ ∀ j i t, e ≠ .al j i t) (hf : fit k m u) :
    ∃ (vs : List V) (F' : List Addr), H D = some (.lst vs) ∧ vs.length = acc.length ∧ Sta K f (tmp (k + 1) (.lst (acc ++ [u])) (.ref D) F' :: τ) ρ σ (upd H D (.lst (vs ++ [y]))) := by
  have s1 : Sta K f (τ ++ [tmp m u y F]) (ρ ++ [.ow (k + 1) (.lst acc)]) (σ ++ [some (.ref D)]) H := Sta.toSlot s
  have hl : ρ.length = σ.length := by obtain ⟨S, rs, s⟩ := s; rw [← s.len, s.lenσ]
  obtain ⟨vs, h1, h2, _, _, h3⟩ := s1.mutL (j := ρ.length) (n := k + 1) (p := []) (getElem?_last) rfl (by rw [hl]; exact getElem?_last) .nil (by simp) (by simpa using hf)
  refine ⟨vs, ?_⟩
  have e : (TL.killJ [ρ.length] (ρ ++ [.ow (k + 1) (.lst acc)])).set ρ.length ((Ent.ow (k + 1) (.lst acc)).put (T.put (.lst (acc ++ [u])) [] (.lst acc))) = ρ ++ [.ow (k + 1) (.lst (acc ++ [u]))] := by
    have e1 : TL.killJ [ρ.length] ρ = ρ := by
      unfold TL.killJ
      rw [List.map_congr_left (g := id) (fun x hx => ?_), List.map_id]
      obtain ⟨a, b⟩ := hnr x hx
      cases x <;> first | rfl | exact absurd rfl (a _) | exact absurd rfl (b _ _ _)
    have e2 : TL.killJ [ρ.length] (ρ ++ [.ow (k + 1) (.lst acc)]) = ρ ++ [.ow (k + 1) (.lst acc)] := by
      show (ρ ++ _).map _ = _
      rw [List.map_append]
      show TL.killJ [ρ.length] ρ ++ _ = _
      rw [e1]; rfl
    rw [e2, List.set_append_right _ _ (Nat.le_refl _), Nat.sub_self]
    rfl
  rw [e] at h3
  obtain ⟨F', h4⟩ := h3.toTmp fun e he => (hnr e he).2
  exact ⟨F', h1, h2, h4⟩
end
/-! ### list comprehensions -/
def canG (K : PySem.W.Frag) (js : List Nat) (g : T → List Ent → (List Ent → Prop) → Prop) : TG := fun v σ H Q => ∃ (f : Fm) (τ : List Root) (ρ : List Ent) (S : Addr → Prop) (rs : List Root) (t : T) (R : List Ent → Prop), StaW K f τ ρ σ H S rs ∧ Shr K H S t v ∧ g t ρ R ∧ ∀ ρ' σ' rs', R ρ' → Offs js σ σ' → StaW K f τ ρ' σ' H S rs' → Q σ' H
theorem TTg.can {X : Cx} {tg : Expr} {js : List Nat} {g : T → List Ent → (List Ent → Prop) → Prop} (h : TTg X tg js g) : PG X tg (canG X.K js g) := by
  obtain ⟨gg, pg, kg⟩ := h.ok
  refine ⟨fun pins s σ H v u Q I r hh => ?_⟩
  obtain ⟨f, τ, ρ, S, rs, t, R, h1, h2, h3, h4⟩ := hh
  exact pg.run pins s σ H v u Q I r (kg f τ ρ σ H S rs t v Q R h1 h2 h3 h4)
def canE (K : PySem.W.Frag) (v : List Ent → (Nat → T → List Ent → Prop) → Prop) : TE := fun σ H Q => ∃ (f : Fm) (τ : List Root) (ρ : List Ent) (R : Nat → T → List Ent → Prop), Sta K f τ ρ σ H ∧ v ρ R ∧ ∀ n t ρ' v F H', R n t ρ' → Sta K f (τ ++ [tmp n t v F]) ρ' σ H' → Q v H'
theorem TVE.can {X : Cx} {e : Expr} {v : List Ent → (Nat → T → List Ent → Prop) → Prop} (h : TVE X e v) : PE X e (canE X.K v) := by
  obtain ⟨gg, pg, kg⟩ := h.ok
  refine ⟨fun pins s σ H Q I hh => ?_⟩
  obtain ⟨f, τ, ρ, R, h1, h2, h3⟩ := hh
  exact pg.run pins s σ H Q I (kg f τ ρ σ H Q R h1 h2 h3)
structure TVTs (X : Cx) (ifs : List Expr) (w : List Ent → (Bool → List Ent → Prop) → Prop) : Prop where
  ok : ∃ tt : TT, PTs X ifs tt ∧ ∀ (f : Fm) (τ : List Root) (ρ : List Ent) (σ : St) (H : Hp) (Q : Bool → Hp → Prop) (R : Bool → List Ent → Prop), Sta X.K f τ ρ σ H → w ρ R → (∀ b ρ' H', R b ρ' → Sta X.K f τ ρ' σ H' → Q b H') → tt σ H Q
def wYes : List Ent → (Bool → List Ent → Prop) → Prop := fun ρ R => R true ρ
theorem tvts_nil {X : Cx} : TVTs X [] wYes := ⟨⟨_, pts_nil, fun f τ ρ σ H Q R hs hw hq => hq true ρ H hw hs⟩⟩
theorem tvts_one {X : Cx} {c : Expr} {vt : List Ent → (Bool → List Ent → Prop) → Prop} (h : TVT X c vt) : TVTs X [c] vt := by
  obtain ⟨tt, pt, kt⟩ := h.ok
  exact ⟨⟨_, pts_one pt, kt⟩⟩
def canT (K : PySem.W.Frag) (w : List Ent → (Bool → List Ent → Prop) → Prop) : TT := fun σ H Q => ∃ (f : Fm) (τ : List Root) (ρ : List Ent) (R : Bool → List Ent → Prop), Sta K f τ ρ σ H ∧ w ρ R ∧ ∀ b ρ' H', R b ρ' → Sta K f τ ρ' σ H' → Q b H'
theorem TVTs.can {X : Cx} {ifs : List Expr} {w : List Ent → (Bool → List Ent → Prop) → Prop} (h : TVTs X ifs w) : PTs X ifs (canT X.K w) := by
  obtain ⟨gg, pg, kg⟩ := h.ok
  refine ⟨fun pins s σ H Q I hh => ?_⟩
  obtain ⟨f, τ, ρ, R, h1, h2, h3⟩ := hh
  exact pg.run pins s σ H Q I (kg f τ ρ σ H Q R h1 h2 h3)
theorem wipe_eq {vs : List Nat} {σ σ2 : St} (h : Offs vs σ σ2) : wipe σ2 vs = wipe σ vs := by
  apply List.ext_getElem?
  intro m
  by_cases hm : m ∈ vs
  · have key : ∀ (vs : List Nat) (σ : St), m ∈ vs → (wipe σ vs)[m]? = if m < σ.length then some none else none := by
      intro vs
      induction vs with
      | nil => intro σ h; cases h
      | cons v vs ih =>
        intro σ h
        unfold wipe
        rw [List.getElem?_set, wipe_length]
        by_cases e : v = m
        · rw [if_pos e, e]
        · rw [if_neg e]
          exact ih σ ((List.mem_cons.mp h).resolve_left fun z => e z.symm)
    rw [key vs σ2 hm, key vs σ hm, h.1]
  · rw [wipe_out hm, wipe_out hm]
    exact h.2 m hm
theorem offs_wipe {vs : List Nat} {σ : St} : Offs vs σ (wipe σ vs) := ⟨wipe_length _ _, fun m h => wipe_out h⟩
theorem Offs.symm {vs : List Nat} {σ σ2 : St} (h : Offs vs σ σ2) : Offs vs σ2 σ := ⟨h.1.symm, fun m hm => (h.2 m hm).symm⟩
def lcOk (k : Nat) (hT : T → List Ent → (List Ent → Prop) → Prop) (vt : List Ent → (Bool → List Ent → Prop) → Prop) (ve : List Ent → (Nat → T → List Ent → Prop) → Prop) (vs : List Nat) (R : Nat → T → List Ent → Prop) (_ : KDep R) (ts : List T) (ρ1 : List Ent) : Prop :=
  ∃ I : Nat → List T → List Ent → Prop, I 0 [] (notIn vs ρ1) ∧ (∀ i t acc ρ, ts[i]? = some t → I i acc ρ → hT t ρ fun ρ2 => vt ρ2 fun b ρ3 => if b = true then ve ρ3 fun n u ρ4 => fit k n u ∧ acc.length < 1000000 ∧ I (i + 1) (acc ++ [u]) (notIn vs ρ4) else I (i + 1) acc (notIn vs ρ3)) ∧
    ∀ acc ρ, I ts.length acc ρ → R (k + 1) (.lst acc) ρ
def vLc (k : Nat) (wi : List Ent → (List T → List Ent → Prop) → Prop) (hT : T → List Ent → (List Ent → Prop) → Prop) (vt : List Ent → (Bool → List Ent → Prop) → Prop) (ve : List Ent → (Nat → T → List Ent → Prop) → Prop) (vs : List Nat) : List Ent → (Nat → T → List Ent → Prop) → Prop := fun ρ R => wi ρ (lcOk k hT vt ve vs R ())
section
variable {X : Cx} {W : WX} {elt tg iter : Expr} {ifs : List Expr} {scope : Scope} {own : List (Str × Nat)} {pos : Pos} {js vs : List Nat} {k : Nat} {wi : List Ent → (List T → List Ent → Prop) → Prop} {hT : T → List Ent → (List Ent → Prop) → Prop} {vt : List Ent → (Bool → List Ent → Prop) → Prop} {ve : List Ent → (Nat → T → List Ent → Prop) → Prop}
theorem lc_read {K : PySem.W.Frag} {ti : TI} (ki : ∀ (f : Fm) (τ : List Root) (ρ : List Ent) (σ : St) (H : Hp) (Q : It → Hp → Prop) (R : List T → List Ent → Prop), Sta K f τ ρ σ H → wi ρ R → (∀ J us vs ts ρ1 H1, R ts ρ1 → ItH K J us vs ts → Sta K f (τ ++ shRoots us vs) ρ1 σ H1 → Q J H1) → ti σ H Q)
    (hj : ∀ j ∈ js, j ∈ vs) {f : Fm} {τ : List Root} {ρ : List Ent} {σ : St} {H : Hp} {Q : VK} {R : Nat → T → List Ent → Prop} (hs : Sta K f τ ρ σ H) (hw : vLc k wi hT vt ve vs ρ R) (hq : ∀ n t ρ' v F H', R n t ρ' → Sta K f (τ ++ [tmp n t v F]) ρ' σ H' → Q v H') :
    tLc ti (canG K js hT) (canT K vt) (canE K ve) vs σ H Q := by
  refine ki f τ ρ σ H _ _ hs hw fun J us ws ts ρ1 H1 h2 ith s1 D hD => ?_
  obtain ⟨I, i0, hI, hend⟩ := h2
  have wk : Walk J ts.length (fun H => ∃ S, Shrs K H S us ws) (fun i H x H' => J.yld i H x H' ∧ ∃ S, Shrs K H S us ws) :=
    ⟨fun i H hi h => let ⟨S, h⟩ := h; ith.goes i H S h hi, fun H h => let ⟨S, h⟩ := h; ith.stops H S h, fun i H x H' _ h y => ⟨y, h⟩⟩
  let Pv : Nat → Hp → Prop := fun i H => ∃ acc ρ0 FD, I i acc (notIn vs ρ0) ∧ Sta K f (tmp (k + 1) (.lst acc) (.ref D) FD :: (τ ++ shRoots us ws)) (notIn vs ρ0) (wipe σ vs) H
  have pop1 : ∀ {r : Root} {H ρ σ}, Sta K f (r :: (τ ++ shRoots us ws)) ρ σ H → Sta K f (τ ++ shRoots us ws) ρ σ H := fun s => s.rot.pop
  have swap : ∀ {r : Root} {H ρ σ}, Sta K f (r :: (τ ++ shRoots us ws)) ρ σ H → Sta K f (r :: τ) ρ σ H := fun {r H ρ σ} s => by
    have s : Sta K f ((r :: τ) ++ shRoots us ws) ρ σ H := s
    exact s.pop
  refine lc_it wk Pv ?_ (fun i H _ h => ?_) (fun i x H H' hi h y => ?_) fun H h => ?_
  · obtain ⟨S, rs, s⟩ := s1.notIn vs (offs_wipe (σ := σ))
    exact ⟨[], ρ1, _, i0, Sta.torF ⟨S, rs, s.pushNew (kd := .lst) hD rfl (n := k) .nil⟩⟩
  · obtain ⟨acc, ρ0, FD, im, s⟩ := h
    exact (pop1 s).shr1 ith.len
  · obtain ⟨acc, ρ0, FD, im, s⟩ := h
    obtain ⟨S, rs, s⟩ := s
    have s0 : StaW K f ((tmp (k + 1) (.lst acc) (.ref D) FD :: τ) ++ shRoots us ws ++ []) (notIn vs ρ0) (wipe σ vs) H S rs := by rw [List.append_nil]; exact s
    obtain ⟨t, e1, sm, x1⟩ := ith.yields i H S x H' hi (s0.shr ith.len) y.1
    refine ⟨f, _, _, _, rs, t, _, s.grow sm, shr_grown x1, hI i t acc _ e1 im, fun ρ2 σ2 rs2 h2 o2 s2 => ?_⟩
    have o3 : Offs vs σ σ2 := ⟨o2.1.trans (wipe_length _ _), fun m hm => (o2.2 m fun z => hm (hj m z)).trans (wipe_out hm)⟩
    have o4 : Offs vs σ2 (wipe σ vs) := ⟨o2.1.symm, fun m hm => (o2.2 m fun z => hm (hj m z)).symm⟩
    refine ⟨wipe_eq o3, f, _, ρ2, _, ⟨_, _, s2⟩, h2, fun b ρ3 H3 h3 s3 => ?_⟩
    cases b with
    | false =>
      rw [if_neg Bool.false_ne_true] at h3 ⊢
      exact ⟨acc, ρ3, FD, h3, s3.notIn vs o4⟩
    | true =>
      rw [if_pos rfl] at h3 ⊢
      refine ⟨f, _, ρ3, _, s3, h3, fun n u ρ4 y4 F4 H4 h4 s4 => ?_⟩
      obtain ⟨h5, h6, h7⟩ := h4
      have s5 := s4.notIn vs o4
      obtain ⟨xs, F', q1, q2, q3⟩ := Sta.snocT s5 (notIn_nr vs ρ4) h5
      exact ⟨xs, q1, by rw [q2]; exact Nat.lt_of_lt_of_le h6 million, acc ++ [u], ρ4, F', h7, q3⟩
  · obtain ⟨acc, ρ0, FD, im, s⟩ := h
    have s2 := (swap s).notIn vs (offs_wipe (σ := σ)).symm
    rw [notIn_idem] at s2
    exact hq (k + 1) (.lst acc) _ _ FD H (hend acc _ im) s2.rot
theorem tv_lc (k : Nat) (js : List Nat) (hc : X.calm = true) (hN : X.N.Nodup) (hi : TIt X tg iter wi) (ok : BlkOk X.N X.env.scope scope own)
    (hg : ∀ (s : Shared) (H : Hp) (C : Addr) (cl : List (Str × Addr)) (fp : List Addr), TTg (X.blk s H scope (compEnvC scope cl C X.env) fp) tg js hT) (ht : ∀ (s : Shared) (H : Hp) (C : Addr) (cl : List (Str × Addr)) (fp : List Addr), TVTs (X.blk s H scope (compEnvC scope cl C X.env) fp) ifs vt)
    (he : ∀ (s : Shared) (H : Hp) (C : Addr) (cl : List (Str × Addr)) (fp : List Addr), TVE (X.blk s H scope (compEnvC scope cl C X.env) fp) elt ve) (hj : ∀ j ∈ js, j ∈ own.map (·.2) := by decide) (hs : ∀ x, foldedSetIterable iter X.env x = pure x := by intro _; rfl) :
    TVE X (.ListComp elt [⟨tg, iter, ifs, 0⟩] scope pos) (vLc k wi hT vt ve (own.map (·.2))) := by
  obtain ⟨ti, pi, ki⟩ := hi.ok
  exact ⟨⟨_, pe_lc (g := canG X.K js hT) (tt := canT X.K vt) (te := canE X.K ve) hc hN pi ok (fun s H C cl fp => (hg s H C cl fp).can) (fun s H C cl fp => (ht s H C cl fp).can) (fun s H C cl fp => (he s H C cl fp).can) hs, fun f τ ρ σ H Q R h1 hw hq => lc_read ki hj h1 hw hq⟩⟩
theorem ts_setLc (i : Nat) {y : Str} {py spos : Pos} (k : Nat) (js : List Nat) (hc : X.calm = true) (hN : X.N.Nodup) (hy : X.N[i]? = some y) (hyl : X.env.scope.names.lookup y = some .local)
    (hsw : swapsWith (.ListComp elt [⟨tg, iter, ifs, 0⟩] scope pos) (some (.Name y py)) spos.line X.env = pure true) (hi : TIt X tg iter wi) (ok : BlkOk X.N X.env.scope scope own)
    (hg : ∀ (s : Shared) (H : Hp) (C : Addr) (cl : List (Str × Addr)) (fp : List Addr), TTg (X.blk s H scope (compEnvC scope cl C X.env) fp) tg js hT) (ht : ∀ (s : Shared) (H : Hp) (C : Addr) (cl : List (Str × Addr)) (fp : List Addr), TVTs (X.blk s H scope (compEnvC scope cl C X.env) fp) ifs vt)
    (he : ∀ (s : Shared) (H : Hp) (C : Addr) (cl : List (Str × Addr)) (fp : List Addr), TVE (X.blk s H scope (compEnvC scope cl C X.env) fp) elt ve) (hj : ∀ j ∈ js, j ∈ own.map (·.2) := by decide) (hs : ∀ x, foldedSetIterable iter X.env x = pure x := by intro _; rfl) :
    TS1 X W (.Assign [.Name y py] (.ListComp elt [⟨tg, iter, ifs, 0⟩] scope pos) spos) (uSet i (vLc k wi hT vt ve (own.map (·.2)))) := by
  obtain ⟨ti, pi, ki⟩ := hi.ok
  refine ⟨⟨_, ps_setLc (g := canG X.K js hT) (tt := canT X.K vt) (te := canE X.K ve) hc hN hy hyl hsw pi ok (fun s H C cl fp => (hg s H C cl fp).can) (fun s H C cl fp => (ht s H C cl fp).can) (fun s H C cl fp => (he s H C cl fp).can) hs, fun f τ ρ σ H De D h1 hl hw => ?_⟩⟩
  exact lc_read ki hj h1 hw fun n t ρ' v F H' h s => hl.nx _ _ H' h.2 (s.setV h.1)
end
end TL
set_option Elab.async false
set_option linter.all false
set_option maxRecDepth 100000
namespace TL
open PySem PySem.Spec PyProof.Rows L2
/-! ### the list that a variable stands for -/
def Plc (ρ : List Ent) (k : Nat) : Option (Nat × List Nat × List T × Nat) := match ρ[k]? with
  | some (.ow (n + 1) (.nd .lst ts)) => some (k, [], ts, n)
  | some (.io (n + 1) (.nd .lst ts)) => some (k, [], ts, n)
  | some (.al j i (.nd .lst ts)) => match ρ[j]?.bind Ent.own with
    | some (n + 2, _) => if j = k then none else some (j, [i], ts, n)
    | _ => none
  | _ => none
def putAt (j : Nat) (p : List Nat) (us : List T) (ρ : List Ent) : List Ent := match ρ[j]? with
  | some e => match e.own with
    | some (_, U) => (killJ [j] ρ).set j (e.put (T.put (.lst us) p U))
    | none => ρ
  | none => ρ
def plSet (k : Nat) (ρ : List Ent) (us : List T) : List Ent := match ρ[k]? with
  | some (.al j i _) => setE (putAt j [i] us ρ) k (.al j i (.lst us))
  | _ => putAt k [] us ρ
section
variable {K : PySem.W.Frag} {f : Fm} {S S' : Addr → Prop} {H H' : Hp} {τ τ' ms : List Root} {ρ : List Ent} {σ σ' : St}
theorem Owns.int : ∀ {n : Nat} {ts : List T} {vs : List V} {F : List Addr}, Owns K H S n ts vs F → ∀ {q : Nat} {i : Int}, ts[q]? = some (.int i) → vs[q]? = some (.int i)
  | _, _, _, _, .nil, q, i, h => by simp at h
  | _, _, _, _, .cons o r, 0, i, h => by
    have h := Option.some.inj h
    subst h
    cases o
    rfl
  | _, _, _, _, .cons o r, q + 1, i, h => by
    rw [List.getElem?_cons_succ] at h ⊢
    exact Owns.int r h
theorem own_lst {n : Nat} {ts : List T} {v : V} {F : List Addr} (h : Own K H S (n + 1) (.lst ts) v F) : ∃ (a : Addr) (vs : List V), v = .ref a ∧ H a = some (.lst vs) ∧ vs.length = ts.length ∧ ∀ (q : Nat) (i : Int), ts[q]? = some (.int i) → vs[q]? = some (.int i) := by
  obtain ⟨a, vs, G, rfl, rfl, q, r⟩ := own_nlst h
  exact ⟨_, _, rfl, q, (Owns.length r).symm, fun _ _ => r.int⟩
/-- slot k becomes a name for item i of what slot j owns -/
theorem way_nonflat {U : T} {v0 v : V} {p : List Nat} {kd : NK} {ts : List T} (w : Way H U v0 p (.nd kd ts) v) : U.flat = false := by
  cases h : U.flat with
  | false => rfl
  | true => exact (flat_no_way w rfl h).elim
theorem Sta.mkAl {j i k n : Nat} {e : Ent} {U : T} {kd : NK} {ts : List T} {v0 v : V} (s : Sta K f τ ρ σ H) (he : ρ[j]? = some e) (ho : e.own = some (n + 2, U)) (hv0 : σ[j]? = some (some v0)) (w : Way H U v0 [i] (.nd kd ts) v) (hk : k < ρ.length) (hjk : j ≠ k) :
    Sta K f τ (setE ρ k (.al j i (.nd kd ts))) (σ.set k (some v)) H := by
  obtain ⟨S, rs, s⟩ := s
  obtain ⟨r, g1, g2, g3, g4⟩ := s.get he
  obtain ⟨q1, q2, q3⟩ := s.good.slot j r g1
  obtain ⟨v0', e1, own⟩ := q1.own (g2 ▸ ho)
  rw [hv0] at g3
  have e0 : v0 = v0' := by
    rw [e1] at g3
    exact Option.some.inj (Option.some.inj g3)
  subst e0
  obtain ⟨Fi, o2, sub⟩ := own.sub w (by simp) (.inl (way_nonflat w)) rfl
  refine ⟨S, _, s.setE0 (v := v) hk ⟨rfl, v, rfl⟩ (fun _ _ z => (nomatch z)) fun j' k' t' z => ?_⟩
  cases z
  exact ⟨hjk, r, n + 1, U, v0, Fi, g4, g2 ▸ ho, e1, w, by simpa using o2, sub⟩
theorem Sta.plc {k j d : Nat} {p : List Nat} {ts : List T} (s : Sta K f τ ρ σ H) (h : Plc ρ k = some (j, p, ts, d)) :
    ∃ (a : Addr) (e : Ent) (U : T) (v0 : V), σ[k]? = some (some (.ref a)) ∧ ρ[j]? = some e ∧ e.own = some (d + p.length + 1, U) ∧ σ[j]? = some (some v0) ∧ Way H U v0 p (.lst ts) (.ref a) ∧ ∃ vs, H a = some (.lst vs) ∧ vs.length = ts.length ∧ ∀ (q : Nat) (i : Int), ts[q]? = some (.int i) → vs[q]? = some (.int i) := by
  obtain ⟨S, rs, s⟩ := s
  have own0 : ∀ {e : Ent} {n : Nat} {ts : List T}, ρ[k]? = some e → e.own = some (n + 1, .lst ts) → ∃ (a : Addr), σ[k]? = some (some (.ref a)) ∧ ∃ vs, H a = some (.lst vs) ∧ vs.length = ts.length ∧ ∀ (q : Nat) (i : Int), ts[q]? = some (.int i) → vs[q]? = some (.int i) := by
    intro e n ts he ho
    obtain ⟨r, g1, g2, g3, g4⟩ := s.get he
    obtain ⟨v0, e1, own⟩ := (s.good.slot k r g1).1.own (g2 ▸ ho)
    obtain ⟨a, vs, rfl, q, l⟩ := own_lst own
    exact ⟨a, by rw [g3, e1], vs, q, l⟩
  unfold Plc at h
  split at h
  · rename_i n ts' he
    cases h
    obtain ⟨a, h1, h2⟩ := own0 he rfl
    exact ⟨a, _, _, .ref a, h1, he, rfl, h1, .nil, h2⟩
  · rename_i n ts' he
    cases h
    obtain ⟨a, h1, h2⟩ := own0 he rfl
    exact ⟨a, _, _, .ref a, h1, he, rfl, h1, .nil, h2⟩
  · rename_i j' i ts' he
    obtain ⟨r, n, U, v0, v, Fi, a1, a2, a3, a4, a5, a6, a7⟩ := (s.al _ _ _ _ he).ex
    have ej : ρ[j']? = some r.e := by rw [← s.e, List.getElem?_map, a1]; rfl
    have ev : σ[j']? = some (some v0) := by rw [← s.o, List.getElem?_map, a1, ← a3]; rfl
    split at h
    · rename_i m Us' hown
      rw [ej] at hown
      have hown : r.e.own = some (m + 2, Us') := hown
      rw [a2] at hown
      cases hown
      split at h
      · cases h
      · cases h
        obtain ⟨a, vs, rfl, q, l⟩ := own_lst a6
        exact ⟨a, r.e, _, v0, a4, ej, a2, ev, a5, vs, q, l⟩
    · cases h
  · cases h
theorem plc_cases {k j d : Nat} {p : List Nat} {ts : List T} (h : Plc ρ k = some (j, p, ts, d)) : (p = [] ∧ j = k ∧ ∃ e, ρ[k]? = some e ∧ e.own = some (d + 1, .lst ts)) ∨ (∃ i, p = [i] ∧ ρ[k]? = some (.al j i (.lst ts)) ∧ j ≠ k ∧ ∃ e Us, ρ[j]? = some e ∧ e.own = some (d + 2, Us)) := by
  unfold Plc at h
  split at h
  · rename_i he; cases h; exact .inl ⟨rfl, rfl, _, he, rfl⟩
  · rename_i he; cases h; exact .inl ⟨rfl, rfl, _, he, rfl⟩
  · rename_i he
    split at h
    · rename_i m Us' hown
      split at h
      · cases h
      · rename_i hne
        cases h
        cases q : ρ[j]? with
        | none => rw [q] at hown; cases hown
        | some e =>
          rw [q] at hown
          exact .inr ⟨_, rfl, he, hne, e, Us', rfl, hown⟩
    · cases h
  · cases h
theorem Way.one {U t : T} {v0 v : V} {i : Nat} (w : Way H U v0 [i] t v) : (∃ b kd o vs ts, U = .nd kd ts ∧ v0 = .ref b ∧ H b = some o ∧ NK.is kd o vs ∧ vs[i]? = some v ∧ ts[i]? = some t) ∨ (∃ b vs ts, U = .tup ts ∧ v0 = .ref b ∧ H b = some (.tup vs) ∧ vs[i]? = some v ∧ ts[i]? = some t) := by
  cases w with
  | nd h1 h0 h2 h3 w => cases w; exact .inl ⟨_, _, _, _, _, rfl, rfl, h1, h0, h2, h3⟩
  | tup h1 h2 h3 w => cases w; exact .inr ⟨_, _, _, rfl, rfl, h1, h2, h3⟩
theorem plSet_var {k : Nat} {us : List T} (h : ∀ j i t, ρ[k]? ≠ some (.al j i t)) : plSet k ρ us = putAt k [] us ρ := by
  unfold plSet
  split
  · rename_i e; exact absurd e (h _ _ _)
  · rfl
theorem putAt_eq {j n : Nat} {p : List Nat} {us : List T} {e : Ent} {U : T} (he : ρ[j]? = some e) (ho : e.own = some (n, U)) : putAt j p us ρ = (killJ [j] ρ).set j (e.put (T.put (.lst us) p U)) := by
  unfold putAt
  simp only [he, ho]
theorem killJ_len {js : List Nat} : (killJ js ρ).length = ρ.length := by unfold killJ; simp
/-- the list that variable k stands for, changed -/
theorem Sta.plMut {m k j d : Nat} {t2 : T} {v2 : V} {F2 : List Addr} {p : List Nat} {ts : List T} (s : Sta K f (τ ++ [tmp m t2 v2 F2]) ρ σ H) (h : Plc ρ k = some (j, p, ts, d)) (hf : fit d m t2) :
    ∃ (a : Addr) (vs : List V), σ[k]? = some (some (.ref a)) ∧ H a = some (.lst vs) ∧ vs.length = ts.length ∧ (∀ i, i < ts.length → Sta K f τ (plSet k ρ (ts.set i t2)) σ (upd H a (.lst (vs.set i v2)))) ∧
      Sta K f τ (plSet k ρ (ts ++ [t2])) σ (upd H a (.lst (vs ++ [v2]))) := by
  obtain ⟨a, e, U, v0, h1, h2, h3, h4, w, vs0, q0, l0⟩ := s.plc h
  have e1 : d + p.length + 1 - p.length - 1 = d := by omega
  obtain ⟨vs, g1, g2, g3, g4, g5⟩ := s.mutL h2 h3 h4 w (by omega) (by rw [e1]; exact hf)
  refine ⟨a, vs, h1, g1, g2, ?_⟩
  have kl : k < ρ.length := by
    rcases plc_cases h with ⟨_, rfl, e, he, _⟩ | ⟨i, _, he, _⟩
    · exact (List.getElem?_eq_some_iff.mp he).1
    · exact (List.getElem?_eq_some_iff.mp he).1
  have key : ∀ (us : List T) (ws : List V), Sta K f τ ((TL.killJ [j] ρ).set j (e.put (T.put (.lst us) p U))) σ (upd H a (.lst ws)) → Sta K f τ (plSet k ρ us) σ (upd H a (.lst ws)) := fun us ws z => by
    rcases plc_cases h with ⟨rfl, rfl, e', he, ho⟩ | ⟨i, rfl, he, hne, e', Us, he', ho'⟩
    · rw [plSet_var (fun j i t y => by rw [he] at y; cases y; cases ho), putAt_eq h2 h3]
      exact z
    · rw [h2] at he'; cases he'
      rw [h3] at ho'
      cases ho'
      have e2 : plSet k ρ us = setE (putAt j [i] us ρ) k (.al j i (.lst us)) := by unfold plSet; rw [he]
      rw [e2, putAt_eq h2 h3]
      have hj : j < ρ.length := (List.getElem?_eq_some_iff.mp h2).1
      have nv0 := g3 (by simp)
      have ow := put_own h3 (T.put (.lst us) [i] U)
      have w2 : Way (upd H a (.lst ws)) (T.put (.lst us) [i] U) v0 [i] (.lst us) (.ref a) := by
        rcases w.one with ⟨b, kd, ob, xs, ys, z1, z2, z3, z0, z4, z5⟩ | ⟨b, xs, ys, z1, z2, z3, z4, z5⟩
        · subst z1
          subst z2
          have hba : b ≠ a := fun z => nv0 (by rw [z])
          have hi : i < ys.length := (List.getElem?_eq_some_iff.mp z5).1
          exact .nd (by rw [upd_ne hba]; exact z3) z0 z4 (by rw [List.getElem?_set_self hi]; rfl) .nil
        · subst z1
          subst z2
          have hba : b ≠ a := fun z => nv0 (by rw [z])
          have hi : i < ys.length := (List.getElem?_eq_some_iff.mp z5).1
          exact .tup (by rw [upd_ne hba]; exact z3) z4 (by rw [List.getElem?_set_self hi]; rfl) .nil
      have s2 := z.mkAl (j := j) (i := i) (k := k) (n := d) (U := T.put (.lst us) [i] U) (ts := us) (by rw [List.getElem?_set_self (by rw [killJ_len]; exact hj)]) ow h4 w2 (by rw [List.length_set, killJ_len]; exact kl) hne
      rw [set_self h1] at s2
      exact s2
  exact ⟨fun i hi => key _ _ (g4 i hi), key _ _ g5⟩
end
/-! ### statements that change lists -/
section
variable {X : Cx} {W : WX} {e a b c ie : Expr} {pos p p2 pos' spos tpos : Pos} {w wi : List Ent → (T → Prop) → Prop} {v : List Ent → (Nat → T → List Ent → Prop) → Prop}
def uSt (k : Nat) (v : List Ent → (Nat → T → List Ent → Prop) → Prop) (wi : List Ent → (T → Prop) → Prop) : TEnds → List Ent → Prop := fun De ρ => v ρ fun m t2 ρ1 => match Plc ρ1 k with
  | some (_, _, ts, d) => wi ρ1 fun ti => match ti with
    | .int z => match ixN ts.length z with
      | some q => fit d m t2 ∧ De.nx (plSet k ρ1 (ts.set q t2))
      | none => False
    | _ => False
  | none => False
theorem ixN_lt {n q : Nat} {z : Int} (h : ixN n z = some q) : q < n := (ixN_seq h).2.1
/-- x[i] = e -/
theorem ts_store (k : Nat) {x : Str} (he : TVE X e v) (hi : TPE X ie wi) (hN : X.N[k]? = some x := by rfl) (hv : Vis X.env.scope x := by first | exact Or.inl rfl | exact Or.inr (Or.inl rfl) | exact Or.inr (Or.inr rfl)) (hd : (x == ("__debug__" : Str)) = false := by decide)
    (hcd : (x == ("__classdict__" : Str)) = false := by decide) (hs : swapsWithSole [.Subscript (.Name x p) ie tpos] e pos.line X.env = pure false := by rfl) (hw : swappedStores [.Subscript (.Name x p) ie tpos] e X.env = pure none := by rfl)
    (h1 : (assignEach [.Subscript (.Name x p) ie tpos] X.env).map (·.2) = [assign (.Subscript (.Name x p) ie tpos) X.env] := by rfl)
    (ha : ∀ v, assign (.Subscript (.Name x p) ie tpos) X.env v = (do
      let ov ← holding [v] (eval (.Name x p) X.env)
      let iv ← holding [v, ov] (eval ie X.env)
      standAt tpos
      holding [v, ov, iv] (setItem ov iv v)
      release [v, ov, iv] []) := by intro _; rfl) : TS1 X W (.Assign [.Subscript (.Name x p) ie tpos] e pos) (uSt k v wi) := by
  obtain ⟨te, pe, ke⟩ := he.ok
  obtain ⟨ti, pi, ki⟩ := hi.ok
  refine ⟨⟨_, ps_asg pe (pg_sub (pe_var hN hv hd hcd) pi set_list ha) hs hw h1, fun f τ ρ σ H De D h1 hl hw => ?_⟩⟩
  refine ke f τ ρ σ H _ _ h1 hw fun m t2 ρ1 v2 F2 H1 h2 s1 => ?_
  have rd := s1.rdAll
  cases q : Plc ρ1 k with
  | none => simp only [q] at h2
  | some x =>
    obtain ⟨j, p, ts, d⟩ := x
    simp only [q] at h2
    obtain ⟨a, e, U, v0, g1, _⟩ := s1.plc q
    refine ⟨.ref a, g1, ki _ ρ1 σ H1 _ _ rd h2 fun t iv H2 h3 sm x1 => ?_⟩
    cases t using T.cs <;> first | exact h3.elim | skip
    rename_i z
    have h3 : match ixN ts.length z with
      | some q => fit d m t2 ∧ De.nx (plSet k ρ1 (ts.set q t2))
      | none => False := h3
    cases qz : ixN ts.length z with
    | none => simp only [qz] at h3
    | some y =>
      simp only [qz] at h3
      obtain ⟨a', vs, b1, b2, b3, b4, _⟩ := (s1.same sm).plMut q h3.1
      rw [g1] at b1
      cases b1
      exact ⟨a, vs, z, y, rfl, shr_int x1, b2, by rw [b3]; exact qz, hl.nx _ σ _ h3.2 (b4 y (ixN_lt qz))⟩
def rGetL : V → V → Hp → VK → Prop := fun o i H Q => ∃ p xs k v, o = .ref p ∧ i = .int k ∧ H p = some (.lst xs) ∧ atI xs k = some v ∧ Q v H
theorem get_list : PGet X rGetL := by
  intro pins s σ H o i ov iv Q I ro ri h
  obtain ⟨p, xs, k, z, rfl, rfl, hq, he, q⟩ := h
  cases ro
  obtain ⟨t, rfl⟩ := ri
  obtain ⟨its, r, pl, hz⟩ := I.list (SqS.sq (S := fun _ => True) ⟨hq, trivial⟩)
  obtain ⟨j, h1, h2, h3, h4, h5⟩ := atI_get he
  obtain ⟨w, ew, rw'⟩ := r.get h2
  have hl := r.length
  have hn := line63
  have fin : EP X pins σ Q w s := ⟨z, H, I, rw', q⟩
  by_cases h0 : 0 ≤ k
  · have hj : k.toNat = j := by
      rw [seqIndex_of h0 h5] at h1
      exact Option.some.inj h1
    exact wpAny_getItem_list pl.isList h0 (by omega) (by rw [hj]; simpa using ew) fin
  · have hj : (k + (its.toArray.size : Int)).toNat = j := by
      rw [seqIndex_neg (by omega) h4] at h1
      rw [List.size_toArray, ← hl]
      exact Option.some.inj h1
    exact wpAny_getItem_list_neg pl.isList (by omega) (by rw [List.size_toArray] <;> omega) (by omega) (by rw [hj]; simpa using ew) fin
def uAu (k : Nat) (g : Int → Int → Int) (wi w : List Ent → (T → Prop) → Prop) : TEnds → List Ent → Prop := fun De ρ => match Plc ρ k with
  | some (_, _, ts, _) => wi ρ fun ti => match ti with
    | .int z => match ixN ts.length z with
      | some q => match ts[q]? with
        | some (.int old) => w ρ fun t => match t with
          | .int y => De.nx (plSet k ρ (ts.set q (.int (g old y))))
          | _ => False
        | _ => False
      | none => False
    | _ => False
  | none => False
/-- x[i] op= e on ints -/
theorem ts_aug (k : Nat) {x : Str} {op : Operator} {g : Int → Int → Int} (hop : PIp X op (ipI g)) (hi : TPE X ie wi) (he : TPE X e w) (hN : X.N[k]? = some x := by rfl) (hv : Vis X.env.scope x := by first | exact Or.inl rfl | exact Or.inr (Or.inl rfl) | exact Or.inr (Or.inr rfl)) (hd : (x == ("__debug__" : Str)) = false := by decide)
    (hcd : (x == ("__classdict__" : Str)) = false := by decide)
    (ha : ∀ ov iv new, augStore ie ov iv new = (do holding [new, ov, iv] (setItem ov iv new); release [new, ov, iv] []; pure .next) := by intros; rfl) : TS1 X W (.AugAssign (.Subscript (.Name x p) ie tpos) op e pos) (uAu k g wi w) := by
  obtain ⟨te, pe, ke⟩ := he.ok
  obtain ⟨ti, pi, ki⟩ := hi.ok
  refine ⟨⟨_, ps_augS (pe_var hN hv hd hcd) pi get_list pe hop set_list ha, fun f τ ρ σ H De D h1 hl hw => ?_⟩⟩
  have rd := h1.rdAll
  unfold uAu at hw
  cases q : Plc ρ k with
  | none => simp only [q] at hw
  | some x =>
    obtain ⟨j, p, ts, d⟩ := x
    simp only [q] at hw
    obtain ⟨a, e, U, v0, g1, _⟩ := h1.plc q
    refine ⟨.ref a, g1, ki _ ρ σ H _ _ rd hw fun t iv H2 h3 sm x1 => ?_⟩
    cases t using T.cs <;> first | exact h3.elim | skip
    rename_i z
    simp only at h3
    cases qz : ixN ts.length z with
    | none => simp only [qz] at h3
    | some y =>
      simp only [qz] at h3
      cases qo : ts[y]? with
      | none => simp only [qo] at h3
      | some o =>
        simp only [qo] at h3
        cases o <;> first | exact h3.elim | skip
        rename_i old
        have s2 := h1.same sm
        obtain ⟨a', e', U', v0', c1, _, _, _, _, vs, c2, c3, c4⟩ := s2.plc q
        rw [g1] at c1
        cases c1
        have iv' := shr_int x1
        subst iv'
        refine ⟨a, vs, z, .int old, rfl, rfl, c2, by unfold atI; rw [c3, qz]; exact c4 y old qo, ke _ ρ σ H2 _ _ s2.rdAll h3 fun t v3 H3 h4 sm3 x3 => ?_⟩
        cases t using T.cs <;> first | exact h4.elim | skip
        rename_i yv
        have s3 := s2.same sm3
        obtain ⟨S, rs, s3⟩ := s3
        have s4 : Sta X.K f (τ ++ [tmp 0 (.int (g old yv)) (.int (g old yv)) []]) ρ σ H3 := ⟨S, rs, s3.pushS (.int _)⟩
        obtain ⟨a', vs', b1, b2, b3, b4, _⟩ := s4.plMut q (.inr rfl)
        rw [g1] at b1
        cases b1
        exact ⟨old, yv, rfl, shr_int x3, a, vs', z, y, rfl, rfl, b2, by rw [b3]; exact qz, hl.nx _ σ _ h4 (b4 y (ixN_lt qz))⟩
def uAp (k : Nat) (v : List Ent → (Nat → T → List Ent → Prop) → Prop) : TEnds → List Ent → Prop := fun De ρ => (Plc ρ k).isSome = true ∧ v ρ fun m t2 ρ1 => match Plc ρ1 k with
  | some (_, _, ts, d) => fit d m t2 ∧ ts.length < 1000000 ∧ De.nx (plSet k ρ1 (ts ++ [t2]))
  | none => False
/-- x.append(e) -/
theorem ts_app (k : Nat) {x : Str} {apos cpos : Pos} (he : TVE X e v) (hN : X.N[k]? = some x := by rfl) (hv : Vis X.env.scope x := by first | exact Or.inl rfl | exact Or.inr (Or.inl rfl) | exact Or.inr (Or.inr rfl)) (hd : (x == ("__debug__" : Str)) = false := by decide)
    (hcd : (x == ("__classdict__" : Str)) = false := by decide) (hsw : swapsWith (.Call (.Attribute (.Name x p) "append" apos) [e] [] cpos) none pos.line X.env = pure false := by rfl)
    (hbase : attributeBase (.Name x p) "append" X.env (eval (.Name x p) X.env) = eval (.Name x p) X.env := by rfl)
    (hfew : ((backTo cpos (starEach [e] X.env)).all (fun x => !x.1) && (backToKw cpos (keywordEach [] X.env)).all (fun x => x.1.isSome)
      && decide ([e].length + ([] : List Keyword).length + (if ([] : List Keyword).isEmpty then 0 else 1) < 30)) = true := by rfl)
    (hline : (apos.endLine == cpos.line) = true := by rfl) (hs : starEach [e] X.env = (false, eval e X.env) :: starEach [] X.env := by rfl) (hplain : (backTo cpos (starEach [] X.env)).any (·.1) = false := by rfl) :
    TS1 X W (.Expr (.Call (.Attribute (.Name x p) "append" apos) [e] [] cpos) pos) (uAp k v) := by
  obtain ⟨te, pe, ke⟩ := he.ok
  refine ⟨⟨_, ps_expr (pe_bm PySem.F.plainAttrs_list PySem.F.slot_list_append PySem.F.type_list_append mt_append (pe_var hN hv hd hcd) (pa_cons pe pa_nil hs) hbase hfew hline hs hplain) hsw, fun f τ ρ σ H De D h1 hl hw => ?_⟩⟩
  obtain ⟨hw1, hw2⟩ := hw
  cases q : Plc ρ k with
  | none => rw [q] at hw1; cases hw1
  | some x =>
    obtain ⟨j, p, ts, d⟩ := x
    obtain ⟨a, e, U, v0, g1, _, _, _, _, vs, g2, _⟩ := h1.plc q
    refine ⟨.ref a, g1, .inl ⟨rfl, vs, SqS.sq (S := fun _ => True) ⟨g2, trivial⟩⟩, ke f τ ρ σ H _ _ h1 hw2 fun m t2 ρ1 v2 F2 H1 h2 s1 => ?_⟩
    cases q2 : Plc ρ1 k with
    | none => simp only [q2] at h2
    | some x =>
      obtain ⟨j, p, ts, d⟩ := x
      simp only [q2] at h2
      obtain ⟨a', vs', b1, b2, b3, _, b5⟩ := s1.plMut q2 h2.1
      rw [g1] at b1
      cases b1
      exact ⟨a, vs', v2, rfl, rfl, b2, by rw [b3]; exact Nat.lt_of_lt_of_le h2.2.1 million, hl.nx _ σ _ h2.2.2 b5⟩
/-- x op= e, ints -/
def uAuN (i : Nat) (g : Int → Int → Int) (v : List Ent → (Nat → T → List Ent → Prop) → Prop) : TEnds → List Ent → Prop := fun De ρ => match ρ[i]?.bind Ent.tr with
  | some (.int x) => v ρ fun _ t ρ1 => match t with
    | .int y => i < ρ1.length ∧ De.nx (setE ρ1 i (.ow 0 (.int (g x y))))
    | _ => False
  | _ => False
theorem ts_augN (i : Nat) {x : Str} {op : Operator} {g : Int → Int → Int} (hop : PIp X op (ipI g)) (hN : X.N.Nodup) (hi : X.N[i]? = some x) (hx : Loc X.env.scope x) (he : TVE X e v) (hf : X.fn x = true ∨ X.env.scope.names.lookup x = some .local := by first | exact .inl rfl | exact .inr rfl | assumption) :
    TS1 X W (.AugAssign (.Name x pos') op e pos) (uAuN i g v) := by
  obtain ⟨te, pe, ke⟩ := he.ok
  refine ⟨⟨_, ps_aug hN hi hx pe hop hf, fun f τ ρ σ H De D h1 hl hw => ?_⟩⟩
  unfold uAuN at hw
  split at hw
  · rename_i xv q
    cases q1 : ρ[i]? with
    | none => rw [q1] at q; cases q
    | some e0 =>
      rw [q1] at q
      obtain ⟨v1, e1, x1⟩ := h1.rdAll i e0 _ q1 q
      have z := shr_int x1
      subst z
      refine ⟨.int xv, e1, ke f τ ρ σ H _ _ h1 hw fun m t2 ρ1 v2 F2 H1 h2 s1 => ?_⟩
      cases t2 <;> first | exact h2.elim | skip
      rename_i y
      obtain ⟨h3, h4⟩ := h2
      have x2 := shr_int s1.last2
      subst x2
      obtain ⟨S, rs, s2⟩ := s1.pop
      exact ⟨xv, y, rfl, rfl, hl.nx _ _ _ h4 ⟨S, _, (s2.pushS (.int _)).setV h3⟩⟩
  · exact hw.elim
/-- row = x[i]: a name for an item of what x owns -/
def uAlias (r k : Nat) (wi : List Ent → (T → Prop) → Prop) : TEnds → List Ent → Prop := fun De ρ => match ρ[k]?.bind Ent.own with
  | some (_ + 2, .nd .lst us) => wi ρ fun ti => match ti with
    | .int z => match ixN us.length z with
      | some q => match us[q]? with
        | some (.nd .lst ts) => k ≠ r ∧ r < ρ.length ∧ De.nx (setE ρ r (.al k q (.lst ts)))
        | _ => False
      | none => False
    | _ => False
  | _ => False
theorem ts_alias (r k : Nat) {y x : Str} {spos : Pos} (hNd : X.N.Nodup) (hr : X.N[r]? = some y) (hy : Loc X.env.scope y) (hi : TPE X ie wi) (hpx : PlainIx ie) (hN : X.N[k]? = some x := by rfl) (hv : Vis X.env.scope x := by first | exact Or.inl rfl | exact Or.inr (Or.inl rfl) | exact Or.inr (Or.inr rfl)) (hd : (x == ("__debug__" : Str)) = false := by decide)
    (hcd : (x == ("__classdict__" : Str)) = false := by decide) (hs : swapsWith (.Subscript (.Name x p) ie spos) (some (.Name y pos')) pos.line X.env = pure false := by rfl) (hf : X.fn y = true ∨ X.env.scope.names.lookup y = some .local := by first | exact .inl rfl | exact .inr rfl | assumption) :
    TS1 X W (.Assign [.Name y pos'] (.Subscript (.Name x p) ie spos) pos) (uAlias r k wi) := by
  obtain ⟨ti, pi, ki⟩ := hi.ok
  refine ⟨⟨_, ps_set hNd hr hy (pe_ix ix_seq (pe_var hN hv hd hcd) pi hpx) hs hf, fun f τ ρ σ H De D h1 hl hw => ?_⟩⟩
  unfold uAlias at hw
  split at hw
  · rename_i n us q
    cases q1 : ρ[k]? with
    | none => rw [q1] at q; cases q
    | some e0 =>
      rw [q1] at q
      have q : e0.own = some (n + 2, .lst us) := q
      have hσ : ∀ {H : Hp}, Sta X.K f τ ρ σ H → ∃ (a : Addr) (S : Addr → Prop) (vs : List V) (F : List Addr), σ[k]? = some (some (.ref a)) ∧ H a = some (.lst vs) ∧ Owns X.K H S (n + 1) us vs F := fun {H} s => by
        obtain ⟨S, rs, s⟩ := s
        obtain ⟨r, g1, g2, g3, g4⟩ := s.get q1
        obtain ⟨v0, e1, own⟩ := (s.good.slot k r g1).1.own (g2 ▸ q)
        cases hF : r.F with
        | nil =>
          rw [hF] at own
          cases own
        | cons a F =>
          rw [hF] at own
          obtain ⟨a', vs', G', rfl, _, z, r'⟩ := own_nlst own
          exact ⟨_, S, _, _, by rw [g3, e1], z, r'⟩
      obtain ⟨a, S, vs, F, g1, g2, g3⟩ := hσ h1
      refine ⟨.ref a, g1, ki _ ρ σ H _ _ h1.rdAll hw fun t iv H2 h3 sm x1 => ?_⟩
      cases t using T.cs <;> first | exact h3.elim | skip
      rename_i z
      simp only at h3
      cases qz : ixN us.length z with
      | none => simp only [qz] at h3
      | some m =>
        simp only [qz] at h3
        cases qo : us[m]? with
        | none => simp only [qo] at h3
        | some o =>
          simp only [qo] at h3
          cases o using T.cs <;> first | exact h3.elim | skip
          rename_i ts
          obtain ⟨hne, hrl, hnx⟩ := h3
          have s2 := h1.same sm
          obtain ⟨a', S', vs', F', c1, c2, c3⟩ := hσ s2
          rw [g1] at c1
          cases c1
          obtain ⟨v1, e1⟩ := c3.get qo
          refine .inl ⟨a, vs', z, v1, rfl, shr_int x1, SqS.sq (S := fun _ => True) ⟨c2, trivial⟩, by unfold atI; rw [← Owns.length c3, qz]; exact e1, ?_⟩
          exact hl.nx _ _ _ hnx (s2.mkAl q1 q g1 (.lst c2 e1 qo .nil) hrl hne)
  · exact hw.elim
end
end TL
set_option Elab.async false
set_option linter.all false
set_option maxRecDepth 100000
namespace TL
open PySem PySem.Spec PyProof.Rows L2
/-! ### a loop over a list that a slot owns, its items named and changed -/
def Ent.isIo : Ent → Bool
  | .io _ _ => true
  | _ => false
def lockE : Ent → Ent
  | .ow n t => .io n t
  | e => e
def openE : Ent → Ent
  | .io n t => .ow n t
  | e => e
def lockS (j : Nat) (ρ : List Ent) : List Ent := match ρ[j]? with
  | some e => ρ.set j (lockE e)
  | none => ρ
def openS (j : Nat) (ρ : List Ent) : List Ent := match ρ[j]? with
  | some e => ρ.set j (openE e)
  | none => ρ
section
variable {K : PySem.W.Frag} {f : Fm} {S S' : Addr → Prop} {H H' : Hp} {τ τ' ms : List Root} {ρ ρ0 : List Ent} {σ σ0 σ' : St}
/-- the kind of an owned slot changed -/
theorem StaW.kind {rs : List Root} {v0' : St} {j : Nat} {e e' : Ent} (s : StaW K f τ ρ σ H S rs) (he : ρ[j]? = some e) (ho : e'.own = e.own) (hn : e.own ≠ none) (hio : ∀ (i : Nat) n t, (ρ.set j e')[i]? = some (.io n t) → σ[i]? = v0'[i]?) :
    ∃ rs', StaW K { f with v0 := v0' } τ (ρ.set j e') σ H S rs' := by
  obtain ⟨r, g1, g2, g3, g4⟩ := s.get he
  have jl : j < rs.length := (List.getElem?_eq_some_iff.mp g4).1
  have al' : ∀ j i t, e' ≠ .al j i t := fun j i t z => by rw [z] at ho; exact hn ho.symm
  have slot' : ∀ {o F}, SlotR K H S e o F → SlotR K H S e' o F := fun {o F} z => by
    cases e <;> first | exact absurd rfl hn | skip
    all_goals (cases e' <;> first | (cases ho; exact z) | cases ho)
  refine ⟨rs.set j ⟨e', r.o, r.F⟩, ?_, ?_, ?_, fun k l i t z => ?_, hio, s.tm⟩
  · rw [List.map_set, s.e]
  · rw [List.map_set, s.o]
    exact set_self g3
  · have G := s.good
    have get : ∀ {m : Nat} {q : Root}, (rs.set j ⟨e', r.o, r.F⟩ ++ τ)[m]? = some q → ∃ q0 : Root, (rs ++ τ)[m]? = some q0 ∧ q.F = q0.F ∧ q.o = q0.o ∧ (q.e = q0.e ∨ (q0.e = e ∧ q.e = e')) := fun {m q} z => by
      rw [← List.set_append_left _ _ jl] at z
      by_cases hm : m = j
      · subst hm
        rw [List.getElem?_set_self (by rw [List.length_append]; omega)] at z
        have z := Option.some.inj z
        subst z
        exact ⟨r, g1, rfl, rfl, .inr ⟨g2, rfl⟩⟩
      · rw [List.getElem?_set_ne (fun y => hm y.symm)] at z
        exact ⟨q, z, rfl, rfl, .inl rfl⟩
    exact {
      slot := fun m q z => by
        obtain ⟨q0, h1, h2, h3, h4⟩ := get z
        obtain ⟨a, b, c⟩ := G.slot m q0 h1
        rw [h2, h3]
        refine ⟨?_, b, c⟩
        rcases h4 with h4 | ⟨h4, h5⟩
        · rw [h4]; exact a
        · rw [h5]; rw [h4] at a; exact slot' a
      dj := fun m l q q' z1 z2 ne a ha hb => by
        obtain ⟨q0, h1, h2, _⟩ := get z1
        obtain ⟨q1, h3, h4, _⟩ := get z2
        rw [h2] at ha
        rw [h4] at hb
        exact G.dj m l q0 q1 h1 h3 ne a ha hb
      trk := G.trk
      fr := G.fr
      src := G.src }
  · by_cases hk : k = j
    · subst hk
      rw [List.getElem?_set_self (List.getElem?_eq_some_iff.mp he).1] at z
      exact absurd (Option.some.inj z) (al' _ _ _)
    · rw [List.getElem?_set_ne (fun y => hk y.symm)] at z
      obtain ⟨r1, n, U, v0, v, Fi, a1, a2, a3, a4, a5, a6, a7⟩ := (s.al k l i t z).ex
      by_cases hl : l = j
      · subst hl
        rw [g4] at a1
        cases a1
        exact ⟨⟨⟨e', r.o, r.F⟩, n, U, v0, v, Fi, List.getElem?_set_self jl, by rw [g2] at a2; exact ho.trans a2, a3, a4, a5, a6, a7⟩⟩
      · exact ⟨⟨r1, n, U, v0, v, Fi, by rw [List.getElem?_set_ne (fun y => hl y.symm)]; exact a1, a2, a3, a4, a5, a6, a7⟩⟩
theorem Sta.lockS {j : Nat} {e : Ent} (s : Sta K f τ ρ σ H) (he : ρ[j]? = some e) (hn : e.own ≠ none) : Sta K { f with v0 := σ } τ (TL.lockS j ρ) σ H := by
  obtain ⟨S, rs, s⟩ := s
  unfold TL.lockS
  rw [he]
  obtain ⟨rs', s'⟩ := s.kind (e' := lockE e) (v0' := σ) he (by cases e <;> rfl) hn (fun _ _ _ _ => rfl)
  exact ⟨S, rs', s'⟩
theorem Sta.openS {j : Nat} {e : Ent} (s : Sta K { f with v0 := σ0 } τ ρ σ H) (s0 : ∀ (i : Nat) n t, ρ0[i]? = some (.io n t) → σ0[i]? = f.v0[i]?) (he : ρ[j]? = some e) (hn : e.own ≠ none) (hio : ∀ i, i ≠ j → (ρ[i]?.map Ent.isIo) = (ρ0[i]?.map Ent.isIo)) :
    Sta K f τ (TL.openS j ρ) σ H := by
  obtain ⟨S, rs, s⟩ := s
  unfold TL.openS
  rw [he]
  have jl := (List.getElem?_eq_some_iff.mp he).1
  obtain ⟨rs', s'⟩ := s.kind (e' := openE e) (v0' := f.v0) he (by cases e <;> rfl) hn (fun i n t z => by
    by_cases hi : i = j
    · subst hi
      rw [List.getElem?_set_self jl] at z
      cases e <;> cases z
    · rw [List.getElem?_set_ne (fun y => hi y.symm)] at z
      have h1 := s.io i n t z
      have h2 := hio i hi
      rw [z] at h2
      cases q : ρ0[i]? with
      | none => rw [q] at h2; cases h2
      | some e0 =>
        rw [q] at h2
        have h2 : true = e0.isIo := Option.some.inj h2
        cases e0 <;> first | cases h2 | skip
        rw [← s0 i _ _ q]
        exact h1)
  exact ⟨S, rs', s'⟩
end
section
variable {X : Cx} {W : WX} {e : Expr} {pos p p2 : Pos} {u : TEnds → List Ent → Prop} {body : List Stmt}
def itemS (k j n i : Nat) (t : T) (ρ : List Ent) (R : List Ent → Prop) : Prop := k ≠ j ∧ k < ρ.length ∧ match t with
  | .nd .lst ts => (match n with
    | m + 2 => R (setE ρ k (.al j i (.lst ts)))
    | _ => R (setE ρ k (.ow 0 (.lst ts))))
  | t => t.flat = true ∧ R (setE ρ k (.ow 0 t))
/-- the loop's own view closed -/
def opn (j : Nat) (ρ0 : List Ent) (R : List Ent → Prop) : List Ent → Prop := fun ρ => (ρ[j]?.map Ent.isIo = some true) ∧ (ρ.map Ent.isIo).set j false = (ρ0.map Ent.isIo).set j false ∧ R (match ρ0[j]? with
  | some (.ow _ _) => openS j ρ
  | _ => ρ)
def uForSl (j k : Nat) (u : TEnds → List Ent → Prop) : TEnds → List Ent → Prop := fun De ρ => ∃ (len : Nat) (I : Nat → List Ent → Prop), I 0 (lockS j ρ) ∧
  (∀ i ρ', i ≤ len → I i ρ' → ∃ n us, ρ'[j]? = some (.io (n + 1) (.lst us)) ∧ us.length = len ∧ ∀ t, us[i]? = some t → itemS k j (n + 1) i t ρ' fun ρ2 => u { nx := I (i + 1), ct := I (i + 1), bk := opn j ρ De.nx, rt := fun _ _ _ => False, xc := fun _ _ => False } ρ2) ∧
  ∀ ρ', I len ρ' → opn j ρ De.nx ρ'
def uForTp (j k : Nat) (u : TEnds → List Ent → Prop) : TEnds → List Ent → Prop := fun De ρ => ∃ (len : Nat) (I : Nat → List Ent → Prop), I 0 (lockS j ρ) ∧
  (∀ i ρ', i ≤ len → I i ρ' → ∃ n us, ρ'[j]? = some (.io (n + 1) (.tup us)) ∧ us.length = len ∧ ∀ t, us[i]? = some t → itemS k j (n + 1) i t ρ' fun ρ2 => u { nx := I (i + 1), ct := I (i + 1), bk := opn j ρ De.nx, rt := fun _ _ _ => False, xc := fun _ _ => False } ρ2) ∧
  ∀ ρ', I len ρ' → opn j ρ De.nx ρ'
theorem isIo_own {e : Ent} (h : e.isIo = true) : e.own ≠ none := by
  cases e with
  | io n t => exact fun z => by cases z
  | ow n t => cases h
  | no => cases h
  | ro _ => cases h
  | al _ _ _ => cases h
theorem opn_ok {K : PySem.W.Frag} {f : Fm} {τ : List Root} {ρ ρ0 : List Ent} {σ σ0 : St} {H H0 : Hp} {j : Nat} {R : List Ent → Prop} (hown : (ρ0[j]?.bind Ent.own).isSome = true) (s0 : Sta K f τ ρ0 σ0 H0) (h : opn j ρ0 R ρ) (s : Sta K { f with v0 := σ0 } τ ρ σ H) : ∃ ρ', R ρ' ∧ Sta K f τ ρ' σ H := by
  obtain ⟨h1, h2, h3⟩ := h
  obtain ⟨S0, rs0, s0⟩ := s0
  cases q : ρ[j]? with
  | none => rw [q] at h1; cases h1
  | some e =>
    rw [q] at h1
    have h1 : e.isIo = true := Option.some.inj h1
    have hn : e.own ≠ none := isIo_own h1
    have hio : ∀ i, i ≠ j → (ρ[i]?.map Ent.isIo) = (ρ0[i]?.map Ent.isIo) := fun i hi => by
      have z := congrArg (fun l => l[i]?) h2
      simp only [List.getElem?_set_ne (fun y => hi y.symm : j ≠ i), List.getElem?_map] at z
      exact z
    cases q0 : ρ0[j]? with
    | none =>
      exfalso
      have z := congrArg List.length h2
      rw [List.length_set, List.length_set, List.length_map, List.length_map] at z
      have := List.getElem?_eq_none_iff.mp q0
      have := (List.getElem?_eq_some_iff.mp q).1
      omega
    | some e0 =>
      rw [q0] at h3
      by_cases h4 : ∃ n t, e0 = .ow n t
      · obtain ⟨n, t, rfl⟩ := h4
        exact ⟨_, h3, s.openS s0.io q hn hio⟩
      · -- the slot was a parameter already
        have h3' : R ρ := by
          cases e0 <;> first | exact absurd ⟨_, _, rfl⟩ h4 | exact h3
        refine ⟨ρ, h3', ?_⟩
        by_cases h5 : ∃ n t, e0 = .io n t
        · obtain ⟨n, t, rfl⟩ := h5
          obtain ⟨S, rs, s⟩ := s
          refine ⟨S, rs, s.e, s.o, ⟨s.good.slot, s.good.dj, s.good.trk, s.good.fr, s.good.src⟩, s.al, fun i m u z => ?_, s.tm⟩
          have h6 := s.io i m u z
          by_cases hi : i = j
          · subst hi
            rw [h6]
            exact s0.io i n t q0
          · have h2 := hio i hi
            rw [z] at h2
            cases q1 : ρ0[i]? with
            | none => rw [q1] at h2; cases h2
            | some e1 =>
              rw [q1] at h2
              have h2 : true = e1.isIo := Option.some.inj h2
              cases e1 <;> first | cases h2 | skip
              rw [h6]
              exact s0.io i _ _ q1
        · exfalso
          rw [q0] at hown
          have hown : e0.own.isSome = true := hown
          cases e0 with
          | ow n t => exact h4 ⟨_, _, rfl⟩
          | io n t => exact h5 ⟨_, _, rfl⟩
          | no => cases hown
          | ro _ => cases hown
          | al _ _ _ => cases hown
def uForSl' (j k : Nat) (u : TEnds → List Ent → Prop) : TEnds → List Ent → Prop := fun De ρ => (ρ[j]?.bind Ent.own).isSome = true ∧ uForSl j k u De ρ
theorem ts_forSl (j k : Nat) {x y : Str} (hp : PassesOwn (model X.prog X.w) X.A X.env X.xe) (hc : X.calm = true) (hNd : X.N.Nodup) (hk : X.N[k]? = some y) (hy : Loc X.env.scope y) (hb : TSs X W body u) (hN : X.N[j]? = some x := by rfl) (hv : Vis X.env.scope x := by first | exact Or.inl rfl | exact Or.inr (Or.inl rfl) | exact Or.inr (Or.inr rfl)) (hd : (x == ("__debug__" : Str)) = false := by decide)
    (hcd : (x == ("__classdict__" : Str)) = false := by decide) (hf : X.fn y = true ∨ X.env.scope.names.lookup y = some .local := by first | exact .inl rfl | exact .inr rfl | assumption) (hs : ∀ z, foldedSetIterable (.Name x p) X.env z = pure z := by intro _; rfl) : TS1 X W (.For (.Name y p2) (.Name x p) body [] pos) (uForSl' j k u) := by
  obtain ⟨tb, pb, kb⟩ := hb.ok
  refine ⟨⟨_, ps_for hp hc (pi_list (pe_var hN hv hd hcd)) (pg_name hNd hk hy hf) pb hs, fun f τ ρ σ H De D h1 hl hw => ?_⟩⟩
  obtain ⟨hown, len, I, i0, hI, hend⟩ := hw
  have key : ∀ {f : Fm} {ρ : List Ent} {σ : St} {H : Hp} {n : Nat} {us : List T}, Sta X.K f τ ρ σ H → ρ[j]? = some (.io (n + 1) (.lst us)) → σ[j]? = f.v0[j]? ∧ ∃ (a : Addr) (S : Addr → Prop) (rs : List Root) (vs : List V) (F : List Addr), StaW X.K f τ ρ σ H S rs ∧ σ[j]? = some (some (.ref a)) ∧ H a = some (.lst vs) ∧ Owns X.K H S n us vs F := fun {f ρ σ H n us} s he => by
    obtain ⟨S, rs, s⟩ := s
    refine ⟨s.io j _ _ he, ?_⟩
    obtain ⟨r, g1, g2, g3, g4⟩ := s.get he
    obtain ⟨v0, e1, own⟩ := (s.good.slot j r g1).1.own (n := n + 1) (t := .lst us) (by rw [g2]; rfl)
    cases hF : r.F with
    | nil => rw [hF] at own; cases own
    | cons a F =>
      rw [hF] at own
      obtain ⟨a', vs', G', rfl, _, z, r'⟩ := own_nlst own
      exact ⟨_, S, rs, _, _, s, by rw [g3, e1], z, r'⟩
  obtain ⟨e0, he0, ho0⟩ : ∃ e0, ρ[j]? = some e0 ∧ e0.own ≠ none := by
    cases q : ρ[j]? with
    | none => rw [q] at hown; cases hown
    | some e0 => exact ⟨e0, rfl, fun z => by rw [q] at hown; have hown : e0.own.isSome = true := hown; rw [z] at hown; cases hown⟩
  have sl := h1.lockS he0 ho0
  obtain ⟨n0, us0, b1, _, _⟩ := hI 0 _ (Nat.zero_le _) i0
  obtain ⟨_, a, S0, rs0, vs0, F0, _, c1, c2, c3⟩ := key sl b1
  refine ⟨.ref a, c1, a, rfl, ⟨vs0, SqS.sq (S := fun _ => True) ⟨c2, trivial⟩⟩, ?_⟩
  have wk : Walk (Itl X.K a) len (fun H => ∃ xs, xs.length = len ∧ SqL X.K H a xs) (fun i H x H' => H' = H ∧ ∀ xs, SqL X.K H a xs → xs[i]? = some x) :=
    ⟨fun i _ hi h => let ⟨xs, h1, h2⟩ := h; ⟨xs, xs[i]'(by omega), h2, by simp [show i < xs.length by omega]⟩, fun _ h => let ⟨xs, h1, h2⟩ := h; ⟨xs, h2, by omega⟩, fun _ _ _ _ _ _ y => y⟩
  refine for_it wk (fun i σ' H => ∃ ρ', i ≤ len ∧ I i ρ' ∧ Sta X.K { f with v0 := σ } τ ρ' σ' H) ⟨_, Nat.zero_le _, i0, sl⟩ (fun i σ' H' _ h => ?_) (fun i x σ' H' H2 hi h y => ?_) fun σ' H' h => ?_
  · obtain ⟨ρ', hi, im, s⟩ := h
    obtain ⟨n, us, d1, d2, _⟩ := hI i ρ' hi im
    obtain ⟨d3, a', S, rs, vs, F, _, d4, d5, d6⟩ := key s d1
    rw [d3] at d4
    have d4 : σ[j]? = some (some (.ref a')) := d4
    rw [c1] at d4
    cases d4
    exact ⟨vs, by rw [← Owns.length d6, d2], SqS.sq (S := fun _ => True) ⟨d5, trivial⟩⟩
  · obtain ⟨ρ', _, im, s⟩ := h
    obtain ⟨rfl, y⟩ := y
    obtain ⟨n, us, d1, d2, d3⟩ := hI i ρ' (Nat.le_of_lt hi) im
    obtain ⟨d7, a', S, rs, vs, F, sw, d4, d5, d6⟩ := key s d1
    have d8 := d4
    rw [d7] at d8
    have d8 : σ[j]? = some (some (.ref a')) := d8
    rw [c1] at d8
    cases d8
    have hx := y vs (SqS.sq (S := fun _ => True) ⟨d5, trivial⟩)
    have ht : us[i]? = some (us[i]'(by omega)) := List.getElem?_eq_getElem (by omega)
    generalize us[i]'(by omega) = t at ht
    obtain ⟨hkj, hkl, hit⟩ := d3 t ht
    have go : ∀ {ρ2 : List Ent}, Sta X.K { f with v0 := σ } τ ρ2 (σ'.set k (some x)) H2 → u { nx := I (i + 1), ct := I (i + 1), bk := opn j ρ De.nx, rt := fun _ _ _ => False } ρ2 → tb { nx := fun σ' H => ∃ ρ', i + 1 ≤ len ∧ I (i + 1) ρ' ∧ Sta X.K { f with v0 := σ } τ ρ' σ' H, rt := D.rt, bk := D.nx, ct := fun σ' H => ∃ ρ', i + 1 ≤ len ∧ I (i + 1) ρ' ∧ Sta X.K { f with v0 := σ } τ ρ' σ' H } (σ'.set k (some x)) H2 := fun {ρ2} s2 h2 => by
      refine kb { f with v0 := σ } τ ρ2 _ H2 _ _ s2 ⟨?_, ?_, ?_, ?_, ?_⟩ h2
      · exact fun ρ3 σ3 H3 h s => ⟨ρ3, hi, h, s⟩
      · exact fun n t ρ σ v F H h s => h.elim
      · exact fun ρ3 σ3 H3 h s => by
          obtain ⟨ρ4, h4, s4⟩ := opn_ok hown h1 h s
          exact hl.nx ρ4 _ _ h4 s4
      · exact fun ρ3 σ3 H3 h s => ⟨ρ3, hi, h, s⟩
      · exact fun x ρ σ cls d H h s e => h.elim
    -- the item's own record
    obtain ⟨F1, Fi, F2, rfl, oi, _⟩ := d6.split ht hx
    have shared : (n = 0 ∨ t.flat = true) → Sta X.K { f with v0 := σ } τ (setE ρ' k (.ow 0 t)) (σ'.set k (some x)) H2 := fun hz => by
      refine ⟨S, _, (sw.pushS (t := t) (v := x) ?_).setV hkl⟩
      rcases hz with rfl | hz
      · have z := oi.zero
        subst z
        exact oi
      · exact (oi.flat0 hz).2 0 S
    cases t using T.cs with
    | lst ts =>
      cases n with
      | zero => exact go (shared (.inl rfl)) hit
      | succ n =>
        exact go (Sta.mkAl ⟨S, rs, sw⟩ d1 rfl d4 (.lst d5 hx ht .nil) hkl fun z => hkj z.symm) hit
    | _ => exact go (shared (.inr hit.1)) hit.2
  · obtain ⟨ρ', _, im, s⟩ := h
    obtain ⟨ρ4, h4, s4⟩ := opn_ok hown h1 (hend ρ' im) s
    exact hl.nx ρ4 _ _ h4 s4
def uForTp' (j k : Nat) (u : TEnds → List Ent → Prop) : TEnds → List Ent → Prop := fun De ρ => (ρ[j]?.bind Ent.own).isSome = true ∧ uForTp j k u De ρ
theorem ts_forTp (j k : Nat) {x y : Str} (hp : PassesOwn (model X.prog X.w) X.A X.env X.xe) (hc : X.calm = true) (hNd : X.N.Nodup) (hk : X.N[k]? = some y) (hy : Loc X.env.scope y) (hb : TSs X W body u) (hN : X.N[j]? = some x := by rfl) (hv : Vis X.env.scope x := by first | exact Or.inl rfl | exact Or.inr (Or.inl rfl) | exact Or.inr (Or.inr rfl)) (hd : (x == ("__debug__" : Str)) = false := by decide)
    (hcd : (x == ("__classdict__" : Str)) = false := by decide) (hf : X.fn y = true ∨ X.env.scope.names.lookup y = some .local := by first | exact .inl rfl | exact .inr rfl | assumption) (hs : ∀ z, foldedSetIterable (.Name x p) X.env z = pure z := by intro _; rfl) : TS1 X W (.For (.Name y p2) (.Name x p) body [] pos) (uForTp' j k u) := by
  obtain ⟨tb, pb, kb⟩ := hb.ok
  refine ⟨⟨_, ps_for hp hc (pi_tup (pe_var hN hv hd hcd)) (pg_name hNd hk hy hf) pb hs, fun f τ ρ σ H De D h1 hl hw => ?_⟩⟩
  obtain ⟨hown, len, I, i0, hI, hend⟩ := hw
  have key : ∀ {f : Fm} {ρ : List Ent} {σ : St} {H : Hp} {n : Nat} {us : List T}, Sta X.K f τ ρ σ H → ρ[j]? = some (.io (n + 1) (.tup us)) → σ[j]? = f.v0[j]? ∧ ∃ (a : Addr) (S : Addr → Prop) (rs : List Root) (vs : List V) (F : List Addr), StaW X.K f τ ρ σ H S rs ∧ σ[j]? = some (some (.ref a)) ∧ SqT X.K H a vs ∧ Owns X.K H S n us vs F ∧ ∀ i kd ts x, vs[i]? = some x → us[i]? = some (.nd kd ts) → Way H (.tup us) (.ref a) [i] (.nd kd ts) x := fun {f ρ σ H n us} s he => by
    obtain ⟨S, rs, s⟩ := s
    refine ⟨s.io j _ _ he, ?_⟩
    obtain ⟨r, g1, g2, g3, g4⟩ := s.get he
    obtain ⟨v0, e1, own⟩ := (s.good.slot j r g1).1.own (n := n + 1) (t := .tup us) (by rw [g2]; rfl)
    generalize r.F = Fr at own
    cases own with
    | tupf q fl r' => exact ⟨_, S, rs, _, _, s, by rw [g3, e1], q, ((Owns.flat0 r' fl).2 _ _), fun i kd ts x h1 h2 => by
        have z := flatAts_iff.mp fl _ (List.mem_of_getElem? h2)
        rw [T.flatAt] at z; cases z⟩
    | tup q r' => exact ⟨_, S, rs, _, _, s, by rw [g3, e1], SqT.of q, r', fun i kd ts x h1 h2 => .tup q h1 h2 .nil⟩
  obtain ⟨e0, he0, ho0⟩ : ∃ e0, ρ[j]? = some e0 ∧ e0.own ≠ none := by
    cases q : ρ[j]? with
    | none => rw [q] at hown; cases hown
    | some e0 => exact ⟨e0, rfl, fun z => by rw [q] at hown; have hown : e0.own.isSome = true := hown; rw [z] at hown; cases hown⟩
  have sl := h1.lockS he0 ho0
  obtain ⟨n0, us0, b1, _, _⟩ := hI 0 _ (Nat.zero_le _) i0
  obtain ⟨_, a, S0, rs0, vs0, F0, _, c1, c2, c3, _⟩ := key sl b1
  refine ⟨.ref a, c1, a, rfl, ⟨vs0, c2⟩, ?_⟩
  have wk : Walk (Itt X.K a) len (fun H => ∃ xs, xs.length = len ∧ SqT X.K H a xs) (fun i H x H' => H' = H ∧ ∀ xs, SqT X.K H a xs → xs[i]? = some x) :=
    ⟨fun i _ hi h => let ⟨xs, h1, h2⟩ := h; ⟨xs, xs[i]'(by omega), h2, by simp [show i < xs.length by omega]⟩, fun _ h => let ⟨xs, h1, h2⟩ := h; ⟨xs, h2, by omega⟩, fun _ _ _ _ _ _ y => y⟩
  refine for_it wk (fun i σ' H => ∃ ρ', i ≤ len ∧ I i ρ' ∧ Sta X.K { f with v0 := σ } τ ρ' σ' H) ⟨_, Nat.zero_le _, i0, sl⟩ (fun i σ' H' _ h => ?_) (fun i x σ' H' H2 hi h y => ?_) fun σ' H' h => ?_
  · obtain ⟨ρ', hi, im, s⟩ := h
    obtain ⟨n, us, d1, d2, _⟩ := hI i ρ' hi im
    obtain ⟨d3, a', S, rs, vs, F, _, d4, d5, d6, dw⟩ := key s d1
    rw [d3] at d4
    have d4 : σ[j]? = some (some (.ref a')) := d4
    rw [c1] at d4
    cases d4
    exact ⟨vs, by rw [← Owns.length d6, d2], d5⟩
  · obtain ⟨ρ', _, im, s⟩ := h
    obtain ⟨rfl, y⟩ := y
    obtain ⟨n, us, d1, d2, d3⟩ := hI i ρ' (Nat.le_of_lt hi) im
    obtain ⟨d7, a', S, rs, vs, F, sw, d4, d5, d6, dw⟩ := key s d1
    have d8 := d4
    rw [d7] at d8
    have d8 : σ[j]? = some (some (.ref a')) := d8
    rw [c1] at d8
    cases d8
    have hx := y vs (d5)
    have ht : us[i]? = some (us[i]'(by omega)) := List.getElem?_eq_getElem (by omega)
    generalize us[i]'(by omega) = t at ht
    obtain ⟨hkj, hkl, hit⟩ := d3 t ht
    have go : ∀ {ρ2 : List Ent}, Sta X.K { f with v0 := σ } τ ρ2 (σ'.set k (some x)) H2 → u { nx := I (i + 1), ct := I (i + 1), bk := opn j ρ De.nx, rt := fun _ _ _ => False } ρ2 → tb { nx := fun σ' H => ∃ ρ', i + 1 ≤ len ∧ I (i + 1) ρ' ∧ Sta X.K { f with v0 := σ } τ ρ' σ' H, rt := D.rt, bk := D.nx, ct := fun σ' H => ∃ ρ', i + 1 ≤ len ∧ I (i + 1) ρ' ∧ Sta X.K { f with v0 := σ } τ ρ' σ' H } (σ'.set k (some x)) H2 := fun {ρ2} s2 h2 => by
      refine kb { f with v0 := σ } τ ρ2 _ H2 _ _ s2 ⟨?_, ?_, ?_, ?_, ?_⟩ h2
      · exact fun ρ3 σ3 H3 h s => ⟨ρ3, hi, h, s⟩
      · exact fun n t ρ σ v F H h s => h.elim
      · exact fun ρ3 σ3 H3 h s => by
          obtain ⟨ρ4, h4, s4⟩ := opn_ok hown h1 h s
          exact hl.nx ρ4 _ _ h4 s4
      · exact fun ρ3 σ3 H3 h s => ⟨ρ3, hi, h, s⟩
      · exact fun x ρ σ cls d H h s e => h.elim
    -- the item's own record
    obtain ⟨F1, Fi, F2, rfl, oi, _⟩ := d6.split ht hx
    have shared : (n = 0 ∨ t.flat = true) → Sta X.K { f with v0 := σ } τ (setE ρ' k (.ow 0 t)) (σ'.set k (some x)) H2 := fun hz => by
      refine ⟨S, _, (sw.pushS (t := t) (v := x) ?_).setV hkl⟩
      rcases hz with rfl | hz
      · have z := oi.zero
        subst z
        exact oi
      · exact (oi.flat0 hz).2 0 S
    cases t using T.cs with
    | lst ts =>
      cases n with
      | zero => exact go (shared (.inl rfl)) hit
      | succ n =>
        exact go (Sta.mkAl ⟨S, rs, sw⟩ d1 rfl d4 (dw _ _ _ _ hx ht) hkl fun z => hkj z.symm) hit
    | _ => exact go (shared (.inr hit.1)) hit.2
  · obtain ⟨ρ', _, im, s⟩ := h
    obtain ⟨ρ4, h4, s4⟩ := opn_ok hown h1 (hend ρ' im) s
    exact hl.nx ρ4 _ _ h4 s4
/-- x.append(y), y now a name for x's last -/
def uApMv (k i : Nat) : TEnds → List Ent → Prop := fun De ρ => match ρ[k]?, ρ[i]? with
  | some (.ow (d + 2) (.nd .lst ts)), some (.ow (m + 1) (.nd .lst us)) => d ≤ m ∧ k ≠ i ∧ ts.length < 1000000 ∧ De.nx (setE (plSet k (setE ρ i .no) (ts ++ [.lst us])) i (.al k ts.length (.lst us)))
  | some (.io (d + 2) (.nd .lst ts)), some (.ow (m + 1) (.nd .lst us)) => d ≤ m ∧ k ≠ i ∧ ts.length < 1000000 ∧ De.nx (setE (plSet k (setE ρ i .no) (ts ++ [.lst us])) i (.al k ts.length (.lst us)))
  | _, _ => False
theorem setE_get_other {ρ : List Ent} {i k : Nat} {e e' : Ent} (h : ρ[k]? = some e) (hn : e.own ≠ none) (hne : k ≠ i) : (setE ρ i e')[k]? = some e := by
  unfold setE
  rw [List.getElem?_set_ne (fun z => hne z.symm)]
  unfold killA
  rw [List.getElem?_map, h]
  show some (noAl i e) = some e
  rcases noAl_cases i e with z | ⟨_, _, z, _⟩
  · rw [z]
  · rw [z] at hn; exact absurd rfl hn
theorem Sta.appMv {K : PySem.W.Frag} {f : Fm} {τ : List Root} {ρ : List Ent} {σ : St} {H : Hp} {k i : Nat} {e : Ent} {d m : Nat} {ts us : List T} (h1 : Sta K f τ ρ σ H) (he : ρ[k]? = some e) (ho : e.own = some (d + 2, .lst ts)) (hei : ρ[i]? = some (.ow (m + 1) (.lst us))) (hdm : d ≤ m) (hne : k ≠ i) :
    ∃ (a : Addr) (v : V) (vs : List V), σ[k]? = some (some (.ref a)) ∧ σ[i]? = some (some v) ∧ H a = some (.lst vs) ∧ vs.length = ts.length ∧ Sta K f τ (setE (plSet k (setE ρ i .no) (ts ++ [.lst us])) i (.al k ts.length (.lst us))) σ (upd H a (.lst (vs ++ [v]))) := by
  obtain ⟨S, rs, s⟩ := h1
  obtain ⟨v, F, rs', g1, s1⟩ := s.moveV hei
  have s1' : Sta K f (τ ++ [tmp (m + 1) (.lst us) v F]) (setE ρ i .no) σ H := ⟨S, rs', s1⟩
  have hk1 : (setE ρ i .no)[k]? = some e := setE_get_other he (by rw [ho]; exact fun z => by cases z) hne
  have hpl : Plc (setE ρ i .no) k = some (k, [], ts, d + 1) := by
    unfold Plc
    rw [hk1]
    cases e with
    | ow n t => cases ho; rfl
    | io n t => cases ho; rfl
    | no => cases ho
    | ro _ => cases ho
    | al _ _ _ => cases ho
  obtain ⟨a, vs, b1, b2, b3, _, b5⟩ := s1'.plMut hpl (.inl (by omega))
  refine ⟨a, v, vs, b1, g1, b2, b3, ?_⟩
  have hps : plSet k (setE ρ i .no) (ts ++ [.lst us]) = (TL.killJ [k] (setE ρ i .no)).set k (e.put (.lst (ts ++ [.lst us]))) := by
    rw [plSet_var (fun j i t y => by rw [hk1] at y; cases y; cases ho), putAt_eq hk1 ho]
    rfl
  have kl : k < (setE ρ i .no).length := (List.getElem?_eq_some_iff.mp hk1).1
  have il : i < ρ.length := (List.getElem?_eq_some_iff.mp hei).1
  have w : Way (upd H a (.lst (vs ++ [v]))) (.lst (ts ++ [.lst us])) (.ref a) [ts.length] (.lst us) v :=
    .lst upd_same (by rw [← b3]; exact getElem?_last) getElem?_last .nil
  have z := b5.mkAl (j := k) (i := ts.length) (k := i) (n := d) (ts := us) (by rw [hps, List.getElem?_set_self (by rw [killJ_len]; exact kl)]) (put_own ho _) b1 w (by rw [hps, List.length_set, killJ_len, setE_len]; exact il) hne
  rw [set_self g1] at z
  exact z
theorem ts_appMv (k i : Nat) {x y : Str} {apos cpos : Pos} (hN : X.N[k]? = some x := by rfl) (hv : Vis X.env.scope x := by first | exact Or.inl rfl | exact Or.inr (Or.inl rfl) | exact Or.inr (Or.inr rfl)) (hd : (x == ("__debug__" : Str)) = false := by decide)
    (hcd : (x == ("__classdict__" : Str)) = false := by decide) (hN2 : X.N[i]? = some y := by rfl) (hv2 : Vis X.env.scope y := by first | exact Or.inl rfl | exact Or.inr (Or.inl rfl) | exact Or.inr (Or.inr rfl)) (hd2 : (y == ("__debug__" : Str)) = false := by decide)
    (hcd2 : (y == ("__classdict__" : Str)) = false := by decide) (hsw : swapsWith (.Call (.Attribute (.Name x p) "append" apos) [.Name y p2] [] cpos) none pos.line X.env = pure false := by rfl)
    (hbase : attributeBase (.Name x p) "append" X.env (eval (.Name x p) X.env) = eval (.Name x p) X.env := by rfl)
    (hfew : ((backTo cpos (starEach [.Name y p2] X.env)).all (fun x => !x.1) && (backToKw cpos (keywordEach [] X.env)).all (fun x => x.1.isSome)
      && decide ([Expr.Name y p2].length + ([] : List Keyword).length + (if ([] : List Keyword).isEmpty then 0 else 1) < 30)) = true := by rfl)
    (hline : (apos.endLine == cpos.line) = true := by rfl) (hs : starEach [.Name y p2] X.env = (false, eval (.Name y p2) X.env) :: starEach [] X.env := by rfl) (hplain : (backTo cpos (starEach [] X.env)).any (·.1) = false := by rfl) :
    TS1 X W (.Expr (.Call (.Attribute (.Name x p) "append" apos) [.Name y p2] [] cpos) pos) (uApMv k i) := by
  refine ⟨⟨_, ps_expr (pe_bm PySem.F.plainAttrs_list PySem.F.slot_list_append PySem.F.type_list_append mt_append (pe_var hN hv hd hcd) (pa_cons (pe_var hN2 hv2 hd2 hcd2) pa_nil hs) hbase hfew hline hs hplain) hsw, fun f τ ρ σ H De D h1 hl hw => ?_⟩⟩
  unfold uApMv at hw
  split at hw
  · rename_i d ts m us q1 q2
    obtain ⟨w1, w2, w3, w4⟩ := hw
    obtain ⟨a, v, vs, b1, b2, b3, b4, b5⟩ := h1.appMv q1 rfl q2 w1 w2
    exact ⟨.ref a, b1, .inl ⟨rfl, vs, SqS.sq (S := fun _ => True) ⟨b3, trivial⟩⟩, v, b2, a, vs, v, rfl, rfl, b3, by rw [b4]; exact Nat.lt_of_lt_of_le w3 million, hl.nx _ σ _ w4 b5⟩
  · rename_i d ts m us q1 q2
    obtain ⟨w1, w2, w3, w4⟩ := hw
    obtain ⟨a, v, vs, b1, b2, b3, b4, b5⟩ := h1.appMv q1 rfl q2 w1 w2
    exact ⟨.ref a, b1, .inl ⟨rfl, vs, SqS.sq (S := fun _ => True) ⟨b3, trivial⟩⟩, v, b2, a, vs, v, rfl, rfl, b3, by rw [b4]; exact Nat.lt_of_lt_of_le w3 million, hl.nx _ σ _ w4 b5⟩
  · exact hw.elim
end
end TL
set_option Elab.async false
set_option linter.all false
set_option maxRecDepth 100000
namespace TL
open PySem PySem.Spec PyProof.Rows L2
structure GF (K : PySem.W.Frag) (mg : Str → Option Value) (x : Str) (st : Stmt) (ps : List Str) where
  f : Addr
  d : FuncData
  F : Fun K x x st f d
  b : Binds K d ps []
  g : mg x = some (.ref f)
theorem eqU {k : Nat} {A : Around} (hr : Room k A) : A.units + 64 < cLine := by have := hr.un; omega
section
variable {K : PySem.W.Frag}
/-- texts, numbers, bools told apart -/
theorem opT_neS : OpT K rNe (fun t u R => match t, u with | .str a, .str b => R (.bl (!decide (a = b))) | .int a, .int b => R (.bl (!decide (a = b))) | .bl a, .bl b => R (.bl (!decide (a = b))) | _, _ => False) := by
  intro S H x y t u Q R h1 h2 hg hq
  cases t using T.cs <;> cases u using T.cs <;> first | exact hg.elim | skip
  · rw [(shr_bl h1), (shr_bl h2)]
    refine ⟨rfl, hq _ _ _ hg (Same.refl H) ?_⟩
    have e : ∀ a b : Bool, decide (V.bl a = V.bl b) = decide (a = b) := by decide
    rw [e]; exact .bl _
  · rename_i a b
    rw [(shr_int h1), (shr_int h2)]
    refine ⟨rfl, hq _ _ _ hg (Same.refl H) ?_⟩
    have e : decide (V.int a = V.int b) = decide (a = b) := by
      by_cases z : a = b
      · subst z; simp
      · rw [decide_eq_false z, decide_eq_false (fun y => z (V.int.inj y))]
    rw [e]; exact .bl _
  · rename_i a b
    rw [(shr_str h1), (shr_str h2)]
    refine ⟨rfl, hq _ _ _ hg (Same.refl H) ?_⟩
    have e : decide (V.str a = V.str b) = decide (a = b) := by
      by_cases z : a = b
      · subst z; simp
      · rw [decide_eq_false z, decide_eq_false (fun y => z (V.str.inj y))]
    rw [e]; exact .bl _
theorem shr_v1 {S : Addr → Prop} {H : Hp} {t : T} {v : V} (h : Shr K H S t v) (hf : t.is1 = true) : v = t.v1 := by
  cases t using T.cs <;> first | exact absurd (show false = true from hf) Bool.false_ne_true | skip
  · exact shr_non h
  · exact shr_bl h
  · exact shr_int h
  · exact shr_str h
theorem shrs_v1 {S : Addr → Prop} {H : Hp} : ∀ {ts : List T} {vs : List V}, Shrs K H S ts vs → ts.all T.is1 = true → vs = ts.map T.v1
  | [], vs, h, _ => by cases h; rfl
  | t :: ts, vs, h, hf => by
    obtain ⟨v, r, rfl, a, b⟩ := h.uncons
    rw [List.all_cons, Bool.and_eq_true] at hf
    rw [shr_v1 a hf.1, shrs_v1 b hf.2]; rfl
theorem flat_v1 {t : T} (hf : t.is1 = true) : flatV t.v1 = true := by cases t using T.cs <;> first | rfl | exact absurd (show false = true from hf) Bool.false_ne_true
def gIn (neg : Bool) : F2 := fun t u R => match u with
  | .tup us => t.is1 = true ∧ us.all T.is1 = true ∧ R (.bl (if neg then !inV t.v1 (us.map T.v1) else inV t.v1 (us.map T.v1)))
  | .nd .lst us => t.is1 = true ∧ us.all T.is1 = true ∧ R (.bl (if neg then !inV t.v1 (us.map T.v1) else inV t.v1 (us.map T.v1)))
  | _ => False
theorem opT_inB (neg : Bool) : OpT K (rIn K neg) (gIn neg) := by
  intro S H x y t u Q R h1 h2 hg hq
  have fl : ∀ us : List T, us.all T.is1 = true → (us.map T.v1).all flatV = true := fun us h => by
    rw [List.all_map]
    refine List.all_eq_true.mpr fun z hz => flat_v1 (List.all_eq_true.mp h z hz)
  cases u using T.cs <;> first | exact hg.elim | skip
  · obtain ⟨p, vs, rfl, q, r⟩ := shr_tup h2
    obtain ⟨g1, g2, g3⟩ := hg
    rw [shr_v1 h1 g1]
    rw [shrs_v1 r g2] at q
    exact ⟨p, _, rfl, .inr q, flat_v1 g1, fl _ g2, hq _ _ _ g3 (Same.refl H) (.bl _)⟩
  · obtain ⟨p, vs, rfl, q, r⟩ := shr_lst h2
    obtain ⟨g1, g2, g3⟩ := hg
    rw [shr_v1 h1 g1]
    rw [shrs_v1 r g2] at q
    exact ⟨p, _, rfl, .inl q.sq, flat_v1 g1, fl _ g2, hq _ _ _ g3 (Same.refl H) (.bl _)⟩
theorem opT_in : OpT K (rIn K false) (gIn false) := opT_inB false
theorem opT_notIn : OpT K (rIn K true) (gIn true) := opT_inB true
theorem shrs_rev {S : Addr → Prop} {H : Hp} : ∀ {ts : List T} {vs : List V}, Shrs K H S ts vs → Shrs K H S ts.reverse vs.reverse
  | [], vs, h => by cases h; exact .nil
  | t :: ts, vs, h => by
    obtain ⟨v, r, rfl, a, b⟩ := h.uncons
    rw [List.reverse_cons, List.reverse_cons]
    exact (shrs_rev b).append (Shrs.cons a .nil)
/-- a constant tuple among the globals -/
theorem kTup {a : Addr} {ts : List T} {o : Obj} {its : Array Value} {n : Nat} (hl : K.lookup a = some o) (hc : o.cls = .type "tuple") (hd : o.data = .seq its n) (hz : its.size ≤ sizeLine) (hv : Vals (ts.map T.v1) its.toList) (hf : ts.all T.is1 = true) (H : Hp) (S : Addr → Prop) : Shr K H S (.tup ts) (.ref a) := by
  refine .tup0 (vs := ts.map T.v1) (.inr ⟨o, its, n, hl, hc, hd, hz, hv⟩) ?_
  clear hv
  induction ts with
  | nil => exact .nil
  | cons t ts ih =>
    rw [List.all_cons, Bool.and_eq_true] at hf
    refine Shrs.cons ?_ (ih hf.2)
    cases t using T.cs <;> first | exact absurd (show false = true from hf.1) Bool.false_ne_true | skip
    · exact .non
    · exact .bl _
    · exact .int _
    · exact .str _
end
section
variable {X : Cx} {W : WX} {e a b ie : Expr} {pos p p1 p2 p3 tpos : Pos} {w wa wi : List Ent → (T → Prop) → Prop} {v vi : List Ent → (Nat → T → List Ent → Prop) → Prop}
def wRev (w : List Ent → (T → Prop) → Prop) : List Ent → (T → Prop) → Prop := fun ρ R => w ρ fun t => match t with | .nd .lst ts => R (.lst ts.reverse) | _ => False
theorem tp_rev {k : Nat} (ha : TPE X e w) : TPE X (.Subscript e (.Slice none none (some (.UnaryOp .USub (.Constant (.int 1) k p1) p2)) p3) pos) (wRev w) := by
  obtain ⟨ta, pa, ka⟩ := ha.ok
  refine ⟨⟨_, pe_revL pa, fun S ρ σ H Q R hr hw hq => ?_⟩⟩
  refine ka S ρ σ H _ _ hr hw fun t v H1 h1 s1 x1 => ?_
  cases t using T.cs <;> first | exact h1.elim | skip
  obtain ⟨p0, vs, rfl, q, r⟩ := shr_lst x1
  have hs : ∀ {p : Addr} {o : HO}, H1 p = none → Same H1 (upd H1 p o) := fun hp b o e => by rw [upd_ne (ne_of_none e hp)]; exact e
  refine ⟨p0, vs, rfl, q.sq, fun p hp => hq _ _ _ h1 (s1.trans (hs hp)) ?_⟩
  exact .sls ⟨upd_same, .inr (s1.free hp)⟩ (Owns.keep (fun _ z => z) (shrs_rev r) (.same (hs hp)))
theorem tp_globT {x : Str} {ts : List T} {c : Addr} (hg : Gl X x) (hm : X.mg x = some (.ref c)) (hs : ∀ H S, Shr X.K H S (.tup ts) (.ref c)) (hd : (x == ("__debug__" : Str)) = false := by decide) : TPE X (.Name x pos) (wC (.tup ts)) :=
  tp_c (v := .ref c) (pe_glob hg hm rfl hd) fun S H => hs H S
def uStV (k : Nat) (v : List Ent → (Nat → T → List Ent → Prop) → Prop) (vi : List Ent → (Nat → T → List Ent → Prop) → Prop) : TEnds → List Ent → Prop := fun De ρ => v ρ fun m t2 ρ1 => (Plc ρ1 k).isSome = true ∧ vi ρ1 fun _ ti ρ2 => match Plc ρ2 k with
  | some (_, _, ts, d) => match ti with
    | .int z => match ixN ts.length z with
      | some q => fit d m t2 ∧ De.nx (plSet k ρ2 (ts.set q t2))
      | none => False
    | _ => False
  | none => False
/-- x[i] = e, the index may change things -/
theorem ts_storeV (k : Nat) {x : Str} (he : TVE X e v) (hi : TVE X ie vi) (hN : X.N[k]? = some x := by rfl) (hv : Vis X.env.scope x := by first | exact Or.inl rfl | exact Or.inr (Or.inl rfl) | exact Or.inr (Or.inr rfl)) (hd : (x == ("__debug__" : Str)) = false := by decide)
    (hcd : (x == ("__classdict__" : Str)) = false := by decide) (hs : swapsWithSole [.Subscript (.Name x p) ie tpos] e pos.line X.env = pure false := by rfl) (hw : swappedStores [.Subscript (.Name x p) ie tpos] e X.env = pure none := by rfl)
    (h1 : (assignEach [.Subscript (.Name x p) ie tpos] X.env).map (·.2) = [assign (.Subscript (.Name x p) ie tpos) X.env] := by rfl)
    (ha : ∀ v, assign (.Subscript (.Name x p) ie tpos) X.env v = (do
      let ov ← holding [v] (eval (.Name x p) X.env)
      let iv ← holding [v, ov] (eval ie X.env)
      standAt tpos
      holding [v, ov, iv] (setItem ov iv v)
      release [v, ov, iv] []) := by intro _; rfl) : TS1 X W (.Assign [.Subscript (.Name x p) ie tpos] e pos) (uStV k v vi) := by
  obtain ⟨te, pe, ke⟩ := he.ok
  obtain ⟨ti, pi, ki⟩ := hi.ok
  refine ⟨⟨_, ps_asg pe (pg_sub (pe_var hN hv hd hcd) pi set_list ha) hs hw h1, fun f τ ρ σ H De D h1 hl hw => ?_⟩⟩
  refine ke f τ ρ σ H _ _ h1 hw fun m t2 ρ1 v2 F2 H1 h2 s1 => ?_
  obtain ⟨h2, h3⟩ := h2
  cases q : Plc ρ1 k with
  | none => rw [q] at h2; cases h2
  | some x =>
    obtain ⟨j, p, ts, d⟩ := x
    obtain ⟨a, e, U, v0, g1, _⟩ := s1.plc q
    refine ⟨.ref a, g1, ki f _ ρ1 σ H1 _ _ s1 h3 fun n3 t ρ2 iv F3 H2 h3 s2 => ?_⟩
    cases q2 : Plc ρ2 k with
    | none => simp only [q2] at h3
    | some y =>
      obtain ⟨j2, p2, ts2, d2⟩ := y
      simp only [q2] at h3
      cases t using T.cs <;> first | exact h3.elim | skip
      rename_i z
      simp only at h3
      have x1 := shr_int s2.last2
      subst x1
      cases qz : ixN ts2.length z with
      | none => simp only [qz] at h3
      | some y =>
        simp only [qz] at h3
        obtain ⟨a', vs, b1, b2, b3, b4, _⟩ := s2.pop.plMut q2 h3.1
        rw [g1] at b1
        cases b1
        exact ⟨a, vs, z, y, rfl, rfl, b2, by rw [b3]; exact qz, hl.nx _ σ _ h3.2 (b4 y (ixN_lt qz))⟩
end
end TL
set_option Elab.async false
set_option linter.all false
set_option maxRecDepth 100000
namespace TL
open PySem PySem.Spec PyProof.Rows L2
/-! ### trees of numbers -/
abbrev Li (xs : List Int) : T := .lst (xs.map T.int)
abbrev Lm (xss : List (List Int)) : T := .lst (xss.map fun xs => Li xs)
theorem mapint_get {xs : List Int} {i : Nat} {t : T} : (xs.map T.int)[i]? = some t ↔ ∃ x, xs[i]? = some x ∧ t = .int x := by
  rw [List.getElem?_map]; cases xs[i]? <;> simp [eq_comm]
theorem mapLi_get {xs : List (List Int)} {i : Nat} {t : T} : (xs.map fun xs => Li xs)[i]? = some t ↔ ∃ x, xs[i]? = some x ∧ t = Li x := by
  rw [List.getElem?_map]; cases xs[i]? <;> simp [eq_comm]
theorem flats_ints : ∀ xs : List Int, T.flats (xs.map T.int) = true
  | [] => rfl
  | x :: xs => by
    show T.flatAts (T.int x :: xs.map T.int) 0 = true
    rw [T.flatAts]
    rw [show T.flatAts (xs.map T.int) 0 = true from flats_ints xs]; rfl
theorem flatAt_Li {xs : List Int} {n : Nat} : (Li xs).flatAt (n + 1) = true := by
  rw [T.flatAt]
  refine flatAts_iff.mpr fun t ht => ?_
  obtain ⟨x, _, rfl⟩ := List.mem_map.mp ht
  cases n <;> rfl
theorem flatAt_Lm {xs : List (List Int)} : (Lm xs).flatAt 2 = true := by
  rw [T.flatAt]
  refine flatAts_iff.mpr fun t ht => ?_
  obtain ⟨x, _, rfl⟩ := List.mem_map.mp ht
  exact flatAt_Li
-- fit for ==, at most so deep
mutual
def T.okd : T → Nat → Bool
  | .non, _ => true
  | .bl _, _ => true
  | .int _, _ => true
  | .str s, _ => PyData.strOk s
  | .tup ts, n + 1 => T.okds ts n
  | .nd .lst ts, n + 1 => T.okds ts n
  | _, _ => false
def T.okds : List T → Nat → Bool
  | [], _ => true
  | t :: ts, n => T.okd t n && T.okds ts n
end
mutual
theorem okd_data : ∀ (t : T) (n : Nat), t.okd n = true → t.data = true ∧ t.pd.canLay0 = true ∧ t.pd.depth ≤ n
  | .non, _, _ => ⟨rfl, rfl, Nat.zero_le _⟩
  | .bl _, _, _ => ⟨rfl, rfl, Nat.zero_le _⟩
  | .int _, _, _ => ⟨rfl, rfl, Nat.zero_le _⟩
  | .str s, _, h => ⟨rfl, h, Nat.zero_le _⟩
  | .tup ts, 0, h => by cases h
  | .tup ts, n + 1, h => by
    obtain ⟨a, b, c⟩ := okds_data ts n h
    refine ⟨by rw [T.data]; exact a, by rw [T.pd, PyData.canLay0]; exact b, by rw [T.pd, PyData.depth]; omega⟩
  | .nd .lst ts, 0, h => by cases h
  | .nd .lst ts, n + 1, h => by
    obtain ⟨a, b, c⟩ := okds_data ts n h
    refine ⟨by rw [T.data]; exact a, by rw [T.pd, PyData.canLay0]; exact b, by rw [T.pd, PyData.depth]; omega⟩
  | .opq _, 0, h => by cases h
  | .opq _, _ + 1, h => by cases h
  | .exc _ _ _ _, 0, h => by cases h
  | .exc _ _ _ _, _ + 1, h => by cases h
  | .scr _, 0, h => by cases h
  | .scr _, _ + 1, h => by cases h
theorem okds_data : ∀ (ts : List T) (n : Nat), T.okds ts n = true → T.datas ts = true ∧ PyData.canLayAll0 (T.pds ts) = true ∧ PyData.depthAll (T.pds ts) ≤ n
  | [], _, _ => ⟨rfl, rfl, Nat.zero_le _⟩
  | t :: ts, n, h => by
    rw [T.okds, Bool.and_eq_true] at h
    obtain ⟨a, b, c⟩ := okd_data t n h.1
    obtain ⟨a2, b2, c2⟩ := okds_data ts n h.2
    refine ⟨by rw [T.datas, a, a2]; rfl, by rw [T.pds, PyData.canLayAll0, b, b2]; rfl, by rw [T.pds, PyData.depthAll]; exact Nat.max_le.mpr ⟨c, c2⟩⟩
end
theorem okd_eqok {t : T} {n : Nat} (h : t.okd n = true) (hn : n ≤ 64) : t.eqok = true := by
  obtain ⟨a, b, c⟩ := okd_data t n h
  unfold T.eqok SeqAt.shaped
  rw [a, b, decide_eq_true (by omega)]; rfl
theorem okd_refl {t : T} {n : Nat} (h : t.okd n = true) : t.eqv t = true := by
  obtain ⟨a, b, c⟩ := okd_data t n h
  exact SeqAt.eqv_refl _ b
theorem okds_iff : ∀ {ts : List T} {n : Nat}, T.okds ts n = true ↔ ∀ t ∈ ts, t.okd n = true
  | [], n => by simp [T.okds]
  | t :: ts, n => by rw [T.okds, Bool.and_eq_true, okds_iff]; simp
theorem okd_Li {xs : List Int} {n : Nat} : (Li xs).okd (n + 1) = true := by
  rw [T.okd]
  refine okds_iff.mpr fun t ht => ?_
  obtain ⟨x, _, rfl⟩ := List.mem_map.mp ht
  rfl
theorem okd_Lm {xs : List (List Int)} {n : Nat} : (Lm xs).okd (n + 2) = true := by
  rw [T.okd]
  refine okds_iff.mpr fun t ht => ?_
  obtain ⟨x, _, rfl⟩ := List.mem_map.mp ht
  exact okd_Li
theorem eqvAll_ints : ∀ xs ys : List Int, PyData.eqvAll (T.pds (xs.map T.int)) (T.pds (ys.map T.int)) = decide (xs = ys)
  | [], [] => by simp [T.pds, PyData.eqvAll]
  | [], _ :: _ => by simp [T.pds, PyData.eqvAll]
  | _ :: _, [] => by simp [T.pds, PyData.eqvAll]
  | x :: xs, y :: ys => by
    rw [List.map_cons, List.map_cons, T.pds, T.pds, PyData.eqvAll, eqvAll_ints xs ys]
    rw [T.pd, T.pd, PyData.eqv]
    by_cases h : x = y <;> by_cases h2 : xs = ys <;> simp [h, h2]
theorem eqv_Li (xs ys : List Int) : (Li xs).eqv (Li ys) = decide (xs = ys) := by
  show PyData.eqv (T.pd (Li xs)) (T.pd (Li ys)) = _
  rw [T.pd, T.pd, PyData.eqv]
  exact eqvAll_ints xs ys
theorem eqvAll_Li : ∀ xs ys : List (List Int), PyData.eqvAll (T.pds (xs.map fun x => Li x)) (T.pds (ys.map fun x => Li x)) = decide (xs = ys)
  | [], [] => by simp [T.pds, PyData.eqvAll]
  | [], _ :: _ => by simp [T.pds, PyData.eqvAll]
  | _ :: _, [] => by simp [T.pds, PyData.eqvAll]
  | x :: xs, y :: ys => by
    rw [List.map_cons, List.map_cons, T.pds, T.pds, PyData.eqvAll, eqvAll_Li xs ys]
    rw [show PyData.eqv (T.pd (Li x)) (T.pd (Li y)) = decide (x = y) from eqv_Li x y]
    by_cases h : x = y <;> by_cases h2 : xs = ys <;> simp [h, h2]
theorem eqv_Lm (xs ys : List (List Int)) : (Lm xs).eqv (Lm ys) = decide (xs = ys) := by
  show PyData.eqv (T.pd (Lm xs)) (T.pd (Lm ys)) = _
  rw [T.pd, T.pd, PyData.eqv]
  exact eqvAll_Li xs ys
theorem atI_natT {α : Type} {xs : List α} {j : Nat} {v : α} (h : xs[j]? = some v) : atI xs (j : Int) = some v := L2.atI_nat h
theorem ixN_nat {n j : Nat} (h : j < n) : ixN n (j : Int) = some j := by
  unfold ixN
  rw [if_pos (by omega), if_pos (by omega)]
  simp
theorem atI_Li {xs : List Int} {i : Nat} {x : Int} (h : xs[i]? = some x) : atI (xs.map T.int) (i : Int) = some (.int x) := L2.atI_nat (by rw [List.getElem?_map, h]; rfl)
theorem atI_Lm {xs : List (List Int)} {i : Nat} {x : List Int} (h : xs[i]? = some x) : atI (xs.map fun x => Li x) (i : Int) = some (Li x) := L2.atI_nat (by rw [List.getElem?_map, h]; rfl)
theorem atI_neg1 {α : Type} {xs : List α} {x : α} (h : xs.getLast? = some x) : atI xs (-1) = some x := by
  have hl : xs ≠ [] := by rintro rfl; cases h
  have h0 : 0 < xs.length := List.length_pos_iff.mpr hl
  unfold atI ixN
  rw [if_neg (by omega), if_pos (by omega)]
  show xs[((-1 : Int) + xs.length).toNat]? = some x
  rw [show ((-1 : Int) + xs.length).toNat = xs.length - 1 by omega, ← List.getLast?_eq_getElem?]
  exact h
theorem getLast_map {α β : Type} {f : α → β} {xs : List α} {x : α} (h : xs.getLast? = some x) : (xs.map f).getLast? = some (f x) := by
  rw [List.getLast?_map, h]; rfl
theorem noAl_ow {i n : Nat} {t : T} : noAl i (.ow n t) = .ow n t := rfl
theorem noAl_io1 {i n : Nat} {t : T} : noAl i (.io n t) = .io n t := rfl
theorem noAl_no {i : Nat} : noAl i .no = .no := rfl
theorem noAl_ro {i : Nat} {t : T} : noAl i (.ro t) = .ro t := rfl
theorem noAl_al' {i j k : Nat} {t : T} : noAl i (.al j k t) = if j = i then .no else .al j k t := rfl
theorem noRo_ow {js : List Nat} {n : Nat} {t : T} : noRo js (.ow n t) = .ow n t := rfl
theorem noRo_io {js : List Nat} {n : Nat} {t : T} : noRo js (.io n t) = .io n t := rfl
theorem noRo_no {js : List Nat} : noRo js .no = .no := rfl
theorem noRA_ow {n : Nat} {t : T} : noRA (.ow n t) = .ow n t := rfl
theorem noRA_io {n : Nat} {t : T} : noRA (.io n t) = .io n t := rfl
theorem noRA_no : noRA .no = .no := rfl
theorem noRA_al {i j : Nat} {t : T} : noRA (.al i j t) = .no := rfl
theorem shE_ow0 {t : T} : shE (.ow 0 t) = .ow 0 t := rfl
theorem shE_ow1 {n : Nat} {t : T} : shE (.ow (n + 1) t) = .no := rfl
theorem shE_io {n : Nat} {t : T} : shE (.io n t) = .no := rfl
theorem shE_no : shE .no = .no := rfl
theorem gIx_Li {xs : List Int} {i : Nat} {x : Int} {R : T → Prop} (h : xs[i]? = some x) (hR : R (.int x)) : gIx (Li xs) (.int (i : Nat)) R := by
  show match atI (xs.map T.int) (i : Int) with | some x => R x | none => False
  rw [atI_Li h]; exact hR
theorem gIx_Lm {xs : List (List Int)} {i : Nat} {x : List Int} {R : T → Prop} (h : xs[i]? = some x) (hR : R (Li x)) : gIx (Lm xs) (.int (i : Nat)) R := by
  show match atI (xs.map fun x => Li x) (i : Int) with | some x => R x | none => False
  rw [atI_Lm h]; exact hR
theorem gIx_lst {xs : List T} {i : Nat} {x : T} {R : T → Prop} (h : xs[i]? = some x) (hR : R x) : gIx (.lst xs) (.int (i : Nat)) R := by
  show match atI xs (i : Int) with | some x => R x | none => False
  rw [atI_natT h]; exact hR
theorem gIx_last {xs : List T} {x : T} {R : T → Prop} (h : xs.getLast? = some x) (hR : R x) : gIx (.lst xs) (.int (-1)) R := by
  show match atI xs (-1) with | some x => R x | none => False
  rw [atI_neg1 h]; exact hR
theorem lst_set {xs : List Int} {i : Nat} {v : Int} : T.lst ((xs.map T.int).set i (T.int v)) = Li (xs.set i v) := congrArg T.lst List.map_set.symm
theorem lst_snoc {xs : List Int} {v : Int} : T.lst (xs.map T.int ++ [T.int v]) = Li (xs ++ [v]) := by show _ = T.lst _; rw [List.map_append]; rfl
theorem lm_set {xs : List (List Int)} {i : Nat} {v : List Int} : T.lst ((xs.map fun x => Li x).set i (Li v)) = Lm (xs.set i v) := congrArg T.lst List.map_set.symm
theorem lm_snoc {xs : List (List Int)} {v : List Int} : T.lst ((xs.map fun x => Li x) ++ [Li v]) = Lm (xs ++ [v]) := by show _ = T.lst _; rw [List.map_append]; rfl
theorem lst_nil : T.lst [] = Li [] := rfl
/-! ### calls whose first argument is slot 0, changed -/
theorem putL_none {us : List (Nat × T)} : ∀ {ρ : List Ent} {k : Nat}, (∀ i, k ≤ i → us.lookup i = none) → putL us k ρ = ρ
  | [], _, _ => rfl
  | e :: ρ, k, h => by
    rw [putL, h k (Nat.le_refl _), putL_none fun i hi => h i (by omega)]
theorem putL_0 {t : T} {e : Ent} {ρ : List Ent} : putL [(0, t)] 0 (e :: ρ) = e.put t :: ρ := by
  rw [putL, putL_none fun i hi => ?_]
  · rfl
  · show (match i == 0 with | true => some t | false => List.lookup i []) = none
    rw [show (i == 0) = false from beq_eq_false_iff_ne.mpr (by omega)]; rfl
theorem inT_io1 {n : Nat} {t x u : T} {ρ : List Ent} : inT (.io n t :: ρ) [.io n, .sh] [.sl 0, .tv 0] [x, u] = some [t, u] := by simp [inT, Ent.own]
theorem inT_ow1 {n : Nat} {t x u : T} {ρ : List Ent} : inT (.ow n t :: ρ) [.io n, .sh] [.sl 0, .tv 0] [x, u] = some [t, u] := by simp [inT, Ent.own]
theorem killJ_cons {js : List Nat} {e : Ent} {ρ : List Ent} : killJ js (e :: ρ) = noRo js e :: killJ js ρ := rfl
theorem killJ_nil0 {js : List Nat} : killJ js [] = [] := rfl
theorem putL_e : ∀ {ρ : List Ent} {k : Nat}, putL [] k ρ = ρ := putL_none fun _ _ => rfl
theorem noRo_al {js : List Nat} {j i : Nat} {t : T} : noRo js (.al j i t) = if j ∈ js then .no else .al j i t := rfl
theorem mem1 {a b : Nat} : (a ∈ [b]) = (a = b) := by simp
end TL
set_option Elab.async false
set_option linter.all false
set_option maxRecDepth 100000
namespace TL
open PySem PySem.Spec PyProof.Rows L2
/-! ### defs that may raise -/
abbrev FnX := List T → (Nat → T → Prop) → (XT → Prop) → Prop
def spTX (K : PySem.W.Frag) (n : Nat) (W : FnX) : Sp := fun vs H Q E => ∃ (ts : List T) (S : Addr → Prop) (R : Nat → T → Prop) (Xr : XT → Prop),
  Shrs K H S ts vs ∧ (∀ a, S a → H a ≠ none) ∧ ts.length = n ∧ W ts R Xr ∧
  (∀ m t v H' S' F, R m t → Same H H' → Own K H' S' m t v F → (∀ a, S' a → fresh S H a ∧ H' a ≠ none) → (∀ a ∈ F, H a = none) → F.Nodup → (∀ a ∈ F, ¬ S' a) → Q v H') ∧
  ∀ x cls d H', Xr x → Same H H' → ExcAt x cls d H' → E cls d H'
section
variable {P : Program} {w : World} {K : PySem.W.Frag} {mg : Str → Option Value} {base : Heap}
theorem sta0 {ts : List T} {vs : List V} {S : Addr → Prop} {H : Hp} {N : List Str} (h : Shrs K H S ts vs) (ht : ∀ a, S a → H a ≠ none) (hN : ts.length ≤ N.length) : Sta K ⟨S, H, [], L2.start N vs⟩ [] (rho0 (allSh ts.length) ts N.length) (L2.start N vs) H := by
  have pin := shRoots_pin h
  have gd := good_sh h ht
  have hl : vs.length = ts.length := h.length.symm
  refine ⟨S, shRoots ts vs ++ List.replicate (N.length - ts.length) ⟨.no, none, []⟩, ?_, ?_, ?_, fun k' j i t hh => ?_, fun i n t _ => rfl, fun r hr => nomatch hr⟩
  · rw [List.map_append, pin.ents, List.map_replicate]; rfl
  · rw [List.map_append, pin.outs, List.map_replicate]
    unfold L2.start
    rw [hl]
  · rw [List.append_nil]
    have fs : foot (shRoots ts vs) = [] := shRoots_foot
    refine ⟨fun m r e => ?_, fun m l r q e1 e2 ne a ha hb => ?_, ht, fun a o e _ => e, fun a z => .inl z⟩
    · by_cases hm : m < (shRoots ts vs).length
      · rw [List.getElem?_append_left hm] at e
        obtain ⟨a, b, c⟩ := gd.slot m r e
        obtain ⟨_, eF⟩ := shRoots_get h m r e
        exact ⟨a, b, fun x hx => by rw [eF] at hx; cases hx⟩
      · rw [List.getElem?_append_right (by omega), List.getElem?_replicate] at e
        split at e
        · have e := (Option.some.inj e).symm
          subst e
          exact ⟨rfl, List.nodup_nil, fun a z => nomatch z⟩
        · cases e
    · by_cases hm : m < (shRoots ts vs).length
      · rw [List.getElem?_append_left hm] at e1
        rw [(shRoots_get h m r e1).2] at ha
        cases ha
      · rw [List.getElem?_append_right (by omega), List.getElem?_replicate] at e1
        split at e1
        · have e1 := (Option.some.inj e1).symm
          subst e1
          cases ha
        · cases e1
  · exfalso
    have mem := List.mem_of_getElem? hh
    unfold rho0 at mem
    rcases List.mem_append.mp mem with mem | mem
    · rw [← pin.ents] at mem
      obtain ⟨r, hr, e⟩ := List.mem_map.mp mem
      obtain ⟨i', hi'⟩ := List.mem_iff_getElem?.mp hr
      have key : ∀ {ts : List T} {vs : List V}, ∀ r ∈ shRoots ts vs, ∃ n t, r.e = .ow n t := by
        intro ts
        induction ts with
        | nil => intro vs r h; cases vs <;> cases h
        | cons t ts ih =>
          intro vs r h
          cases vs with
          | nil => cases h
          | cons v vs =>
            rcases List.mem_cons.mp h with rfl | h
            · exact ⟨0, t, rfl⟩
            · exact ih r h
      obtain ⟨n', t', e'⟩ := key r hr
      rw [e'] at e
      cases e
    · rw [List.mem_replicate] at mem
      cases mem.2
theorem Sta.sameH {f : Fm} {τ : List Root} {ρ : List Ent} {σ : St} {H : Hp} (s : Sta K f τ ρ σ H) (hW : f.W = []) : Same f.H0 H := fun b o e => by
  obtain ⟨S, rs, s⟩ := s
  exact s.good.fr b o e (by rw [hW]; exact fun z => nomatch z)
/-- the rule for a def that may raise -/
theorem fnTX {x qual : Str} {st : Stmt} {fa : Addr} {fd : FuncData} {N ps : List Str} {k n : Nat} {W : FnX} (F : Fun K x qual st fa fd) (S : FnScope N ps (defScope st)) (hl : n = ps.length)
    (hbody : ∀ (X : Cx) (cdv : Value) (A : Around) (outer : List Env) (s : Shared) (H : Hp) (E : XK), X = cxOf (L2N.CX P w) P w K mg base N qual (defScope st) fa cdv A outer s H E → Room k X.A → ∃ u, TSs X (fun cls d _ H => E cls d H) (defBody st) u ∧
      ∀ ts R Xr, W ts R Xr → ts.length = n → u { nx := fun _ => R 0 .non, rt := fun m t _ => R m t, xc := fun x _ => Xr x } (rho0 (allSh n) ts N.length)) :
    FnOk P w K mg base (L2N.CX P w) (k + 1) fa fd ps (spTX K n W) := by
  obtain ⟨oc, od, kV, doc, pm, an, cdv, ct, osl, rfl, lk, hcd⟩ := F.ex
  refine fn_of lk hcd S (fun vs H Q E h => ?_) (fun A outer s H vs Q E hr h => ?_)
  · obtain ⟨ts, S0, R, Xr, h1, _, h3, _⟩ := h
    rw [← h1.length, h3, hl]
  · obtain ⟨ts, S0, R, Xr, h1, h2, h3, h4, h5, h6⟩ := h
    obtain ⟨u, hu, hW⟩ := hbody _ cdv A outer s H E rfl hr
    obtain ⟨tt, hp, ht⟩ := hu.ok
    refine ⟨tt, hp, ?_⟩
    have hN : ps.length ≤ N.length := by have := congrArg List.length S.pre; rw [List.length_take] at this; omega
    have sta := sta0 (N := N) h1 h2 (by omega)
    rw [h3] at sta
    have fin : ∀ m t ρ σ v F H', R m t → Sta K ⟨S0, H, [], L2.start N vs⟩ ([] ++ [tmp m t v F]) ρ σ H' → Q v H' := fun m t ρ σ v F H' hR hs => by
      have sm := hs.sameH rfl
      obtain ⟨S', rs, s'⟩ := hs
      have gt : (rs ++ ([] ++ [tmp m t v F]))[rs.length]? = some (tmp m t v F) := getElem?_last
      obtain ⟨p1, p2, p3⟩ := s'.good.slot _ _ gt
      obtain ⟨v', e2, own⟩ := p1
      cases e2
      refine h5 m t v H' S' F hR sm own (fun a z => ⟨?_, s'.good.trk a z⟩) (fun a z => ?_) p2 fun a z => (p3 a z).1
      · rcases s'.good.src a z with q | q | q
        · exact .inl q
        · exact .inr q
        · cases q
      · rcases (p3 a z).2 with q | q
        · exact q
        · cases q
    refine ht ⟨S0, H, [], L2.start N vs⟩ [] _ _ H { nx := fun _ => R 0 .non, rt := fun m t _ => R m t, xc := fun x _ => Xr x } _ sta ⟨fun ρ σ H' h s => ?_, fun m t ρ σ v F H' h s => fin m t ρ σ v F H' h s, fun _ _ _ h => h.elim, fun _ _ _ h => h.elim, fun x ρ σ cls d H' h s e => h6 x cls d H' h (s.sameH rfl) e⟩ (hW ts R Xr h4 h3)
    obtain ⟨S', rsF, s'⟩ := s
    exact fin 0 .non ρ σ .non [] H' h ⟨S', rsF, s'.pushS .non⟩
end
end TL
set_option Elab.async false
set_option linter.all false
set_option maxRecDepth 100000
namespace TL
open PySem PySem.Spec PyProof.Rows L2
section
variable {K : PySem.W.Frag} {f : Fm} {S S' : Addr → Prop} {H H' : Hp} {τ τ' ms rs rs' : List Root} {ρ ρ' : List Ent} {σ : St}
/-- a new value held, what it shares may be new too -/
theorem StaW.pushO (s : StaW K f τ ρ σ H S rs) (hs : Same H H') {n : Nat} {t : T} {v : V} {F : List Addr} (own : Own K H' S' n t v F) (nd : F.Nodup) (hF : ∀ a ∈ F, H a = none) (hS : ∀ a, S' a → fresh S H a ∧ H' a ≠ none) (hd : ∀ a ∈ F, ¬ S' a) :
    StaW K f (τ ++ [tmp n t v F]) ρ σ H' (fun a => S a ∨ S' a) rs := by
  have noS : ∀ {m : Nat} {r : Root} {a : Addr}, (rs ++ τ)[m]? = some r → a ∈ r.F → ¬ (S a ∨ S' a) := fun {m r a} e hx z => by
    rcases z with z | z
    · exact ((s.good.slot m r e).2.2 a hx).1 z
    · rcases (hS a z).1 with z | z
      · exact ((s.good.slot m r e).2.2 a hx).1 z
      · obtain ⟨vs, e2⟩ := s.good.own_there e hx
        rw [z] at e2; cases e2
  refine ⟨s.e, s.o, ?_, fun k' j i t h => ((s.al k' j i t h).same hs).mono fun x z => .inl z, s.io, tm_app s.tm ⟨_, _, rfl⟩⟩
  rw [← List.append_assoc]
  have nw : ∀ {m : Nat} {r : Root} {a : Addr}, (rs ++ τ)[m]? = some r → a ∈ F → a ∉ r.F := fun e ha hm => by
    obtain ⟨vs, q⟩ := s.good.own_there e hm
    rw [hF _ ha] at q; cases q
  exact {
    slot := fun m r e => by
      rcases app_old e with ⟨_, rfl⟩ | ⟨_, e⟩
      · refine ⟨⟨v, rfl, own.mono fun _ => .inr⟩, nd, fun a z => ⟨fun y => ?_, s.good.none_src (hF a z)⟩⟩
        rcases y with y | y
        · exact s.good.trk a y (hF a z)
        · exact hd a z y
      · obtain ⟨a, b, c⟩ := s.good.slot m r e
        exact ⟨a.keep (fun x z => .inl z) (.same hs) (fun _ _ => .same hs), b, fun x hx => ⟨noS e hx, (c x hx).2⟩⟩
    dj := fun m l r q e1 e2 ne a ha hb => by
      rcases app_old e1 with ⟨d1, rfl⟩ | ⟨_, g1⟩
      · rcases app_old e2 with ⟨d2, rfl⟩ | ⟨_, g2⟩
        · exact ne (d1.trans d2.symm)
        · exact nw g2 ha hb
      · rcases app_old e2 with ⟨_, rfl⟩ | ⟨_, g2⟩
        · exact nw g1 hb ha
        · exact s.good.dj m l r q g1 g2 ne a ha hb
    trk := fun a z => by
      rcases z with z | z
      · exact fun y => s.good.trk a z (hs.free y)
      · exact (hS a z).2
    fr := fun a o h1 h2 => hs _ _ (s.good.fr a o h1 h2)
    src := fun a z => by
      rcases z with z | z
      · exact s.good.src a z
      · rcases (hS a z).1 with z | z
        · exact s.good.src a z
        · exact .inr (s.good.none_src z) }
end
/-! ### an expression whose call may raise -/
structure TVX (X : Cx) (W : WX) (e : Expr) (w : List Ent → (Nat → T → List Ent → Prop) → (XT → List Ent → Prop) → Prop) : Prop where
  ok : ∃ tt : TE, PE X e tt ∧ ∀ (f : Fm) (τ : List Root) (ρ : List Ent) (σ : St) (H : Hp) (Q : VK) (R : Nat → T → List Ent → Prop) (Xr : XT → List Ent → Prop), Sta X.K f τ ρ σ H → w ρ R Xr →
    (∀ n t ρ' v F H', R n t ρ' → Sta X.K f (τ ++ [tmp n t v F]) ρ' σ H' → Q v H') → (∀ x ρ' cls d H', Xr x ρ' → Sta X.K f τ ρ' σ H' → ExcAt x cls d H' → W cls d σ H') → tt σ H Q
section
variable {X : Cx} {W : WX} {e : Expr} {es : List Expr} {pos p pos' : Pos} {ks : List Nat} {vA : List Ent → (List T → List Ent → Prop) → Prop} {wx : List Ent → (Nat → T → List Ent → Prop) → (XT → List Ent → Prop) → Prop}
def wCallX (n : Nat) (W : FnX) (vA : List Ent → (List T → List Ent → Prop) → Prop) : List Ent → (Nat → T → List Ent → Prop) → (XT → List Ent → Prop) → Prop := fun ρ R Xr => vA ρ fun ts ρ' => ts.length = n ∧ W ts (fun m t => R m t ρ') (fun x => Xr x ρ')
theorem tvx_call {x : Str} {fa : Addr} {fd : FuncData} {qs : List Str} {k n : Nat} {Wf : FnX} (tk : L2N.Takes X W) (F : FnOk X.prog X.w X.K X.mg X.base (L2N.CX X.prog X.w) k fa fd qs (spTX X.K n Wf)) (hr : Room k X.A) (hg : Gl X x) (hm : X.mg x = some (.ref fa)) (hk : PySem.W.keepIn X.K (.ref fa) = true) (hb : Binds X.K fd qs [])
    (ha : TVA X ks (e :: es) vA) (h0 : ∀ m ∈ ks, m = 0 := by simp) (hdb : (x == ("__debug__" : Str)) = false := by decide) (he : starEach (e :: es) X.env = (false, eval e X.env) :: starEach es X.env := by rfl) (hpl : (backTo pos (starEach es X.env)).any (·.1) = false := by rfl) :
    TVX X W (.Call (.Name x p) (e :: es) [] pos) (wCallX n Wf vA) := by
  obtain ⟨ta, pa, ka⟩ := ha.ok
  refine ⟨⟨_, pe_callS (E := WE W) F hr hg hm hk hb (fun σ => L2N.passAt tk σ) pa hdb he hpl, fun f τ ρ σ H Q R Xr hs hw hq hx => ?_⟩⟩
  refine ka f τ ρ σ H _ _ hs hw fun ts ρ' vs ms H1 h1 hm1 s1 => ?_
  have em := s1.shm hm1 h0
  subst em
  have hl : ts.length = vs.length := by rw [hm1.lens.1, hm1.lens.2]
  obtain ⟨S, rs, s⟩ := s1
  have s0 : StaW X.K f (τ ++ shRoots ts vs ++ []) ρ' σ H1 S rs := by rw [List.append_nil]; exact s
  have sp := s.pop
  refine ⟨ts, S, fun m t => R m t ρ', fun x => Xr x ρ', s0.shr hl, sp.good.trk, h1.1, h1.2, fun m t v H' S' F hR sm own hS hF nd hd => ?_, fun x cls d H' hX sm ex => ?_⟩
  · exact hq m t ρ' v F H' hR ⟨_, rs, sp.pushO sm own nd hF hS hd⟩
  · exact hx x ρ' cls d H' hX ⟨S, rs, sp.same sm⟩ ex
def uExpX (wx : List Ent → (Nat → T → List Ent → Prop) → (XT → List Ent → Prop) → Prop) : TEnds → List Ent → Prop := fun De ρ => wx ρ (fun _ _ ρ' => De.nx ρ') De.xc
theorem ts_exprX (he : TVX X W e wx) (hs : swapsWith e none pos.line X.env = pure false := by rfl) : TS1 X W (.Expr e pos) (uExpX wx) := by
  obtain ⟨t1, p1, k1⟩ := he.ok
  exact ⟨⟨_, ps_expr p1 hs, fun f τ ρ σ H De D hs hl hw => k1 f τ ρ σ H _ _ _ hs hw (fun n t ρ' v F H' h s => hl.nx ρ' σ H' h s.pop) fun x ρ' cls d H' h s e => hl.xc x ρ' σ cls d H' h s e⟩⟩
def uRetX (wx : List Ent → (Nat → T → List Ent → Prop) → (XT → List Ent → Prop) → Prop) : TEnds → List Ent → Prop := fun De ρ => wx ρ De.rt De.xc
theorem ts_retX (he : TVX X W e wx) : TS1 X W (.Return (some e) pos) (uRetX wx) := by
  obtain ⟨t1, p1, k1⟩ := he.ok
  exact ⟨⟨_, ps_ret p1, fun f τ ρ σ H De D hs hl hw => k1 f τ ρ σ H _ _ _ hs hw (fun n t ρ' v F H' h s => hl.rt n t ρ' σ v F H' h s) fun x ρ' cls d H' h s e => hl.xc x ρ' σ cls d H' h s e⟩⟩
def uSetX (i : Nat) (wx : List Ent → (Nat → T → List Ent → Prop) → (XT → List Ent → Prop) → Prop) : TEnds → List Ent → Prop := fun De ρ => wx ρ (fun n t ρ' => i < ρ'.length ∧ De.nx (setE ρ' i (.ow n t))) De.xc
theorem ts_setX (i : Nat) {x : Str} (hN : X.N.Nodup) (hi : X.N[i]? = some x) (hx : Loc X.env.scope x) (he : TVX X W e wx) (hs : swapsWith e (some (.Name x pos')) pos.line X.env = pure false := by rfl) (hf : X.fn x = true ∨ X.env.scope.names.lookup x = some .local := by first | exact .inl rfl | exact .inr rfl | assumption) :
    TS1 X W (.Assign [.Name x pos'] e pos) (uSetX i wx) := by
  obtain ⟨t1, p1, k1⟩ := he.ok
  refine ⟨⟨_, ps_set hN hi hx p1 hs hf, fun f τ ρ σ H De D hs hl hw => k1 f τ ρ σ H _ _ _ hs hw (fun n t ρ' v F H' h s => hl.nx _ _ H' h.2 (s.setV h.1)) fun x ρ' cls d H' h s e => hl.xc x ρ' σ cls d H' h s e⟩⟩
end
end TL
set_option Elab.async false
set_option linter.all false
set_option maxRecDepth 100000
namespace TL
open PySem PySem.Spec PyProof.Rows L2
/-! ### raise C(e, ..), C an own class with an __init__ -/
section
variable {X : Cx} {W : WX} {e : Expr} {es : List Expr} {ta : TA} {x : Str} {p pos pos2 : Pos} {C fI : Addr} {k : Nat} {fd : FuncData} {ps : List Str} {sp : Sp}
theorem pmkN (T : OexC X.K C) (iC : PySem.W.findIn X.K (.ref C) "__init__" = some (some (.ref fI))) (tI : PySem.W.typeIn X.K (.ref fI) = some (.type "function"))
    (F1 : FnOk X.prog X.w X.K X.mg X.base CX0 k fI fd ps sp) (hr : Room (k + 1) X.A) (hb : Binds X.K fd ps []) (hg : Gl X x) (hm : X.mg x = some (.ref C)) (ha : PA X (e :: es) ta)
    (hdb : (x == ("__debug__" : Str)) = false := by decide) (hst : starEach (e :: es) X.env = (false, eval e X.env) :: starEach es X.env := by rfl) (hpl : (backTo pos (starEach es X.env)).any (·.1) = false := by rfl) :
    L2N.PMk X (.Call (.Name x p) (e :: es) [] pos) (tMkO C sp [] ta) := by
  intro pins s σ H Q I h
  obtain ⟨q1, q2, q3, q4, q5, q6, q7, q8, q9, q10, r0, r1, r2, r3, r5, hcls, hbm⟩ := T.cls
  refine wpAny_Call_Name_kw (ld_glob I hg hm ?_ hdb)
  refine PySem.W.callWith_K (h₀ := X.base) I.ok.mod.kin T.kC (thn (ha.run pos pins s σ H _ I h) fun us s1 z => ?_) hst hpl
  obtain ⟨vs, H1, I1, rv, hn, q⟩ := z
  refine ⟨I1.kIn, ?_⟩
  show wpAny _ _ (call (.ref C) us) _ _ _
  obtain ⟨hp, gs, dr, tk, os⟩ := s1
  -- the exception's address: behind the tuple of the arguments
  generalize hx : hp.objs.size + 1 = ax
  have big : hp.objs.size ≤ ax := by omega
  have hinit := q ax (I1.hok.fresh big)
  rw [List.append_nil] at hinit
  generalize hh2 : (hp.push (PySem.W.kdv_tup us)).push (PySem.HandSPX.excO C hp.objs.size) = hp2
  have keep : ∀ b o, hp.get? b = some o → hp2.get? b = some o := fun b o g => by
    rw [← hh2]; exact Heap.get?_push_of_some _ (Heap.get?_push_of_some _ g)
  have there : hp2.get? ax = some (PySem.HandSPX.excO C hp.objs.size) := by
    rw [← hh2, ← hx]; heap_get
  have I2 : Inv X pins σ (upd H1 ax (exo ax C none)) ⟨hp2, gs, dr, tk, os⟩ := I1.laid (t' := tk) (a := ax) (h' := hp2) keep big (exo_ok there)
  have len1 := F1.len _ _ _ _ hinit
  have rv2 : Vals (V.ref ax :: vs) (Value.ref ax :: us) := .cons rfl rv
  have hb2 := hb ⟨hp2, gs, dr, tk, os⟩ (Value.ref ax :: us) I2.kIn (by rw [List.append_nil, ← rv2.length]; exact len1)
  rw [List.append_nil] at hb2
  have small : us.length ≤ sizeLine := by
    rw [← Paired.length rv, sizeLine_eq]; omega
  have goal : wpAny (model X.prog X.w) X.A (call (.ref C) us) (L2N.MkP X pins σ Q) X.xe ⟨hp, gs, dr, tk, os⟩ := by
    refine wpAny_call (PySem.HandSPX.call_own F.excBase_ValueError (fun Y => PySem.HandSPX.refsVE_contains Y q5 hbm) (I1.kIn _ _ hcls) (PySem.W.looks_findIn I1.kIn iC) (fun self => PySem.W.bind_fn I1.kIn self tI) small ?_)
    have run := F1.run (X.A.under (.builtin "type.__call__" ⟨.ref C :: us, []⟩)) X.stack ⟨hp2, gs, dr, tk, os⟩ _ ⟨Value.ref ax :: us, []⟩ _ _ _ (fun _ _ _ => False) (hr.make C us []) (I2.env0.make C us []) hb2 rv2 hinit
    rw [← hx, ← hh2] at run
    refine codeAny_mono run fun r s' hq => ?_
    cases r with
    | error er => exact hq.elim
    | ok fl =>
      cases fl with
      | ret u =>
        obtain ⟨v, H2, os2, bare2, un2, hok2, ru, ev, d, fs, ea, ed, hd1, hQ⟩ := hq
        subst ev
        obtain ⟨h2, g2, d2, t2, os'⟩ := s'
        refine ⟨ru, ?_⟩
        rw [hh2, hx] at un2
        rw [hx] at ea hQ
        obtain ⟨t0, G, J, kG, nG, hoe, na⟩ := mk_end0 (d2 := d2) (t2 := t2) I1 big keep un2 hok2 os2 bare2 ea ed hd1
        rw [hx]
        refine ⟨ax, _, _, ⟨G, g2, d2, t2, os'⟩, _, .ref C, some d, rfl, J, kG, nG, hoe, ⟨rfl, rfl, fun ws hv => ?_⟩, rfl, rfl, na, rfl, bare2, raises_own T.exC T.tyC, hQ⟩
        cases hv
        rfl
      | next => exact hq.elim
      | brk => exact hq.elim
      | cont => exact hq.elim
  exact goal
end
/-! ### __init__ of one field -/
def spI1 (K : PySem.W.Frag) (f : Str) : Sp := fun vs H Q _ => ∃ (a C : Addr) (y : V), vs = [.ref a, y] ∧ OexC K C ∧ PySem.W.findIn K (.ref C) f = some none ∧ H a = some (exo a C none) ∧
  ∀ dx, H dx = none → dx ≠ a → Q .non (upd (upd H dx (exd dx [(f, y)])) a (exo a C (some dx)))
/-- an own exception class with one field f, kept by its __init__ (st) -/
structure XC1 (K : PySem.W.Frag) (mg : Str → Option Value) (nm qual f : Str) (st : Stmt) where
  C : Addr
  fI : Addr
  d : FuncData
  g : mg nm = some (.ref C)
  o : OexC K C
  i : PySem.W.findIn K (.ref C) "__init__" = some (some (.ref fI))
  t : PySem.W.typeIn K (.ref fI) = some (.type "function")
  F : Fun K "__init__" qual st fI d
  b : Binds K d ["self", f] []
  no : PySem.W.findIn K (.ref C) f = some none
section
variable {X : Cx} {W : WX} {e : Expr} {w : List Ent → (T → Prop) → Prop} {x f : Str} {p pos pos2 : Pos} {C fI : Addr} {k : Nat} {fd : FuncData}
def uRaise1 (C : Addr) (f : Str) (w : List Ent → (T → Prop) → Prop) : TEnds → List Ent → Prop := fun De ρ => w ρ fun t => t.is1 = true ∧ De.xc ⟨C, [(f, t.v1)]⟩ ρ
theorem shr_is1 {K : PySem.W.Frag} {S : Addr → Prop} {H : Hp} {t : T} {v : V} (h : Shr K H S t v) (h1 : t.is1 = true) : v = t.v1 := by
  cases t using T.cs <;> first | exact absurd (show false = true from h1) Bool.false_ne_true | skip
  · exact shr_non h
  · exact shr_bl h
  · exact shr_int h
  · exact shr_str h
theorem ts_raise1 {nm qual : Str} {st : Stmt} {C0 : Addr} (hc : X.calm = true) (tk : L2N.Takes X W) (T : XC1 X.K X.mg nm qual f st) (hC : T.C = C0) (F1 : FnOk X.prog X.w X.K X.mg X.base CX0 k T.fI T.d ["self", f] (spI1 X.K f)) (hr : Room (k + 1) X.A) (hg : Gl X nm) (ha : TPE X e w)
    (hdb : (nm == ("__debug__" : Str)) = false := by decide) (hst : starEach (e :: []) X.env = (false, eval e X.env) :: starEach [] X.env := by rfl) (hpl : (backTo pos (starEach [] X.env)).any (·.1) = false := by rfl) :
    TS1 X W (.Raise (some (.Call (.Name nm p) [e] [] pos)) none pos2) (uRaise1 C0 f w) := by
  subst hC
  obtain ⟨te, pe, ke⟩ := ha.ok
  refine ⟨⟨_, L2N.ps_raise hc tk (pmkN T.o T.i T.t F1 hr T.b hg T.g (pa_cons pe pa_nil hst) hdb hst hpl), fun f0 τ ρ σ H De D hs hl hw => ?_⟩⟩
  refine ke _ ρ σ H _ _ hs.rdAll hw fun t v H1 h1 sm sh => ?_
  show _ ∧ _
  refine ⟨by simp, fun a na => ⟨a, T.C, v, rfl, T.o, T.no, upd_same, fun dx nd ne => ⟨rfl, dx, [(f, v)], upd_same, ?_, ?_, ?_⟩⟩⟩
  · rw [upd_ne ne, upd_same]
  · rw [upd_ne ne] at nd; exact nd
  · rw [upd_ne ne] at nd
    have eH : upd (del (upd (upd (upd H1 a (exo a T.C none)) dx (exd dx [(f, v)])) a (exo a T.C (some dx))) a) dx (.xd [(f, v)]) = upd H1 dx (.xd [(f, v)]) := by
      funext b
      by_cases hb : b = dx
      · subst hb; rw [upd_same, upd_same]
      · rw [upd_ne hb, upd_ne hb]
        by_cases hb2 : b = a
        · subst hb2; rw [del_same, na]
        · rw [del_ne hb2, upd_ne hb2, upd_ne hb, upd_ne hb2]
    rw [eH]
    have sm2 : Same H1 (upd H1 dx (.xd [(f, v)])) := fun b o z => by rw [upd_ne (ne_of_none z nd)]; exact z
    exact hl.xc _ ρ σ _ _ _ h1.2 (hs.same (sm.trans sm2)) ⟨rfl, dx, rfl, by rw [shr_is1 sh h1.1]; exact upd_same⟩
end
end TL
set_option Elab.async false
set_option linter.all false
set_option maxRecDepth 100000
namespace TL
open PySem PySem.Spec PyProof.Rows L2 L2H
/-! ### a def called while an exception is handled, the exception its argument -/
structure FnE (P : Program) (w : World) (K : PySem.W.Frag) (mg : Str → Option Value) (base : Heap) (k : Nat) (f : Addr) (fd : FuncData) (ps : List Str) (sp : Addr × Obj → Sp) : Prop where
  len : ∀ p vs H Q E, sp p vs H Q E → vs.length = ps.length
  run : ∀ (p : Addr × Obj) (A : Around) (outer : List Env) (s : Shared) (H : Hp) (args : Args) (us : List Value) (vs : List V) (Q : VK) (E : XK), RoomH k A → Hot1 A p → PinOk outer H s p → Env0 P w K mg base A outer s H → BindsTo s fd args (ps.zip us) → Vals vs us → sp p vs H Q E →
    codeAny (model P w) A (.call (.ref f) args) (CR CX0 outer P w H s Q E) s
section
variable {P : Program} {w : World} {K : PySem.W.Frag} {mg : Str → Option Value} {base : Heap}
theorem fnE_of {x qual : Str} {st : Stmt} {fa : Addr} {fd : FuncData} {N ps : List Str} {k : Nat} {sp : Addr × Obj → Sp} (F : Fun K x qual st fa fd) (S : FnScope N ps (defScope st)) (len : ∀ p vs H Q E, sp p vs H Q E → vs.length = ps.length)
    (hbody : ∀ (p : Addr × Obj) (cdv : Value) (A : Around) (outer : List Env) (s : Shared) (H : Hp) (vs : List V) (Q : VK) (E : XK), RoomH k (A.deeper (envOfC qual (defScope st) s.heap.objs.size fa cdv)) → sp p vs H Q E →
      ∃ t, PSs (cxH CX0 P w K mg base N qual (defScope st) fa cdv A outer s H E p).nox (defBody st) t ∧ t { nx := fun _ H' => Q .non H', rt := Q } (L2.start N vs) H) : FnE P w K mg base (k + 1) fa fd ps sp := by
  obtain ⟨oc, od, kV, doc, pm, an, cdv, ct, osl, rfl, lk, hcd⟩ := F.ex
  refine ⟨len, fun p A outer s H args us vs Q E room hot pin e0 bind rv hsp => ?_⟩
  have nvs := len _ _ _ _ _ hsp
  have inK : K.In s.heap := e0.mod.kin.keeps fun b o z => (e0.bs b o z).1
  have noLim : s.heap.NoLimit := e0.mod.nolimit.keeps fun b o z => (e0.bs b o z).1
  have kinds : ∀ y ∈ ps.zip us, (defScope st).names.lookup y.1 = some .local ∨ ((defScope st).names.lookup y.1 = some .cell ∧ ((cellsFrom (s.heap.objs.size + 1) (defScope st).names []).lookup y.1).isSome = true) := by
    rintro ⟨n, v⟩ hy
    exact (S.par n (List.of_mem_zip hy).1).imp id fun q => ⟨q, PySem.W.cellsFrom_some _ _ _ (.inl q)⟩
  refine codeAny_call_function room.depth (inK _ _ lk) rfl S.co S.gen rfl (PySem.W.codeRec_of inK hcd) (bind _ _ _ _ ?_)
  refine wpAny_newFunctionEnv_cells S.kind kinds fun env ee s1 ic => ?_
  subst ee
  refine ⟨noLim.keeps ic.toInCall.keep, codeAny_func ?_⟩
  obtain ⟨t, ht, hq⟩ := hbody p cdv A outer s H vs Q E (room.deeper _) hsp
  have I0 := inv_startH (CX := CX0) (qual := qual) (f := fa) (cd := cdv) (E := E) S pin e0 nvs rv ic
  refine wpAny_mono (ht.nox.run [] s1 (L2.start N vs) H _ I0 hq) (fun fl s1 z => ?_) fun e s1 z => z
  cases fl with
  | ret u =>
    obtain ⟨v, _, H', J, ru, q⟩ := z
    exact ⟨v, H', J.os, J.bare, J.base, J.hok, ru, q⟩
  | next =>
    obtain ⟨_, H', J, q⟩ := z
    exact ⟨.non, H', J.os, J.bare, J.base, J.hok, rfl, q⟩
  | brk => obtain ⟨_, _, _, q⟩ := z; exact q.elim
  | cont => obtain ⟨_, _, _, q⟩ := z; exact q.elim
end
/-! ### the contract of such a def -/
/-- the exception at a stands pinned: its class, its dict -/
def PinAt (X : Cx) (a C dd : Addr) : Prop := ∃ (oe : Obj) (vs : Array Value), (a, oe) ∈ X.pn ∧ oe.cls = .ref C ∧ oe.dict = some dd ∧ oe.data = .fields vs
abbrev FnW := XT → (Nat → T → Prop) → Prop
def spE (K : PySem.W.Frag) (W : FnW) (p : Addr × Obj) : Sp := fun vs H Q _ => ∃ (x : XT) (dd : Addr) (R : Nat → T → Prop), vs = [.ref p.1] ∧ p.2.cls = .ref x.C ∧ p.2.dict = some dd ∧ (∃ fv, p.2.data = .fields fv) ∧ H dd = some (.xd x.fs) ∧ W x R ∧
  ∀ m t v H' S' F, R m t → Same H H' → Own K H' S' m t v F → (∀ a, S' a → fresh (fun b => b = dd) H a ∧ H' a ≠ none) → (∀ a ∈ F, H a = none) → F.Nodup → (∀ a ∈ F, ¬ S' a) → Q v H'
section
variable {P : Program} {w : World} {K : PySem.W.Frag} {mg : Str → Option Value} {base : Heap}
theorem fnTE {x qual n : Str} {st : Stmt} {fa : Addr} {fd : FuncData} {N : List Str} {k : Nat} {W : FnW} (F : Fun K x qual st fa fd) (S : FnScope N [n] (defScope st))
    (hbody : ∀ (X : Cx) (p : Addr × Obj) (cdv : Value) (A : Around) (outer : List Env) (s : Shared) (H : Hp) (E : XK), X = (cxH CX0 P w K mg base N qual (defScope st) fa cdv A outer s H E p).nox → RoomH k X.A → ∃ u, TSs X (fun _ _ _ _ => False) (defBody st) u ∧
      ∀ x dd R, PinAt X p.1 x.C dd → W x R → u { nx := fun _ => R 0 .non, rt := fun m t _ => R m t } (rho0 (allSh 1) [.exc p.1 x.C dd x.fs] N.length)) : FnE P w K mg base (k + 1) fa fd [n] (spE K W) := by
  refine fnE_of F S (fun p vs H Q E h => ?_) fun p cdv A outer s H vs Q E hr h => ?_
  · obtain ⟨x, dd, R, rfl, _⟩ := h; rfl
  · obtain ⟨x, dd, R, rfl, hc, hd, ⟨fv, hfv⟩, hx, hW, hq⟩ := h
    obtain ⟨u, hu, hw⟩ := hbody _ p cdv A outer s H E rfl hr
    obtain ⟨tt, hp, ht⟩ := hu.ok
    refine ⟨tt, hp, ?_⟩
    have hN : [n].length ≤ N.length := by have := congrArg List.length S.pre; rw [List.length_take] at this; omega
    have sh : Shrs K H (fun b => b = dd) [.exc p.1 x.C dd x.fs] [.ref p.1] := Shrs.cons (.exc hx rfl) .nil
    have sta := sta0 (N := N) sh (fun a e => by subst e; rw [hx]; exact fun z => nomatch z) hN
    have fin : ∀ m t ρ σ v F H', R m t → Sta K ⟨fun b => b = dd, H, [], L2.start N [.ref p.1]⟩ ([] ++ [tmp m t v F]) ρ σ H' → Q v H' := fun m t ρ σ v F H' hR hs => by
      have sm := hs.sameH rfl
      obtain ⟨S', rs, s'⟩ := hs
      have gt : (rs ++ ([] ++ [tmp m t v F]))[rs.length]? = some (tmp m t v F) := getElem?_last
      obtain ⟨⟨v', e2, own⟩, p2, p3⟩ := s'.good.slot _ _ gt
      cases e2
      refine hq m t v H' S' F hR sm own (fun a z => ⟨?_, s'.good.trk a z⟩) (fun a z => ?_) p2 fun a z => (p3 a z).1
      · rcases s'.good.src a z with q | q | q
        · exact .inl q
        · exact .inr q
        · cases q
      · rcases (p3 a z).2 with q | q
        · exact q
        · cases q
    refine ht ⟨fun b => b = dd, H, [], L2.start N [.ref p.1]⟩ [] _ _ H { nx := fun _ => R 0 .non, rt := fun m t _ => R m t } _ sta ⟨fun ρ σ H' h s => ?_, fun m t ρ σ v F H' h s => fin m t ρ σ v F H' h s, fun _ _ _ h => h.elim, fun _ _ _ h => h.elim, fun x ρ σ cls d H' h s e => h.elim⟩ (hw x dd R ⟨p.2, fv, List.mem_cons_self, hc, hd, hfv⟩ hW)
    obtain ⟨S', rsF, s'⟩ := s
    exact fin 0 .non ρ σ .non [] H' h ⟨S', rsF, s'.pushS .non⟩
end
/-! ### what such a def asks of the exception -/
def T.ofV : V → T
  | .bl b => .bl b
  | .int i => .int i
  | .str s => .str s
  | _ => .non
theorem T.of_v1 {t : T} (h : t.is1 = true) : T.ofV t.v1 = t := by cases t using T.cs <;> first | rfl | exact absurd (show false = true from h) Bool.false_ne_true
def flat1 : V → Bool
  | .non => true
  | .bl _ => true
  | .int _ => true
  | .str _ => true
  | _ => false
theorem shr_ofV {K : PySem.W.Frag} {H : Hp} {S : Addr → Prop} {v : V} (h : flat1 v = true) : Shr K H S (T.ofV v) v := by
  cases v <;> first | exact .non | exact .bl _ | exact .int _ | exact .str _ | exact absurd (show false = true from h) Bool.false_ne_true
theorem flat1_v1 {t : T} (h : t.is1 = true) : flat1 t.v1 = true := by cases t using T.cs <;> first | rfl | exact absurd (show false = true from h) Bool.false_ne_true
section
variable {X : Cx} {x y n : Str} {p px py pos : Pos} {v : V} {cv : Value}
theorem instAt_pin {pins : List (Addr × Obj)} {σ : St} {H : Hp} {s : Shared} (I : Inv X pins σ H s) {a C dd : Addr} {fs : List (Str × V)} (hp : PinAt X a C dd) (hd : H dd = some (.xd fs)) :
    ∃ (oe od : Obj) (mA : Str → Option Value), PySem.W.InstAt s.heap a oe C (some od) ∧ (∀ f, RelO (fs.lookup f) (mA f)) ∧ ∀ f, PySem.W.lookIn f od = some (mA f) := by
  obtain ⟨oe, vs, h1, h2, h3, h4⟩ := hp
  obtain ⟨hget, _⟩ := I.pin (a, oe) (List.mem_append_left _ h1)
  have hx : ObjOk X.prog X.w H s.heap dd (.xd fs) := I.hok dd _ hd
  obtain ⟨mA, hns, hr⟩ := hx
  obtain ⟨od, ho, hl⟩ := lookIn_ns hns
  exact ⟨oe, od, mA, ⟨hget, h2, by unfold PySem.W.notCls; rw [h4] <;> rfl, by rw [h3]; exact ho⟩, hr, hl⟩
/-- isinstance(e, c), e the exception -/
def rIsX (X : Cx) (v : V) (cv : Value) : List V → Hp → VK → Prop := fun xs H Q => ∃ (a C dd : Addr) (fs : List (Str × V)) (b : Bool), xs = [.ref a, v] ∧ PinAt X a C dd ∧ H dd = some (.xd fs) ∧ ExcC X.K C ∧ PySem.W.kitOne X.K (.ref C) cv = some b ∧ Q (.bl b) H
theorem call_isX (hv : ∀ u, RelV v u → u = cv) : CallR X (.builtin "isinstance") (rIsX X v cv) := by
  intro pins s σ H xs us Q I r h
  obtain ⟨a, C, dd, fs, b, rfl, hp, hd, c, e, q⟩ := h
  cases r with
  | cons r1 r2 =>
    cases r2 with
    | cons r3 r4 =>
      cases r4
      rename_i u1 u2
      obtain rfl : u1 = Value.ref a := r1
      obtain rfl := hv _ r3
      obtain ⟨oe, od, _, J, _⟩ := instAt_pin I hp hd
      obtain ⟨cd, hcd, _⟩ := PySem.W.any_some c.hd
      exact PySem.W.kia_one (PySem.W.kitx_exc (by rw [hcd]; rfl) c.hg c.hk c.hs c.ha c.hn c.ht c.hm) I.kIn J e (fun z => nomatch z) fun tk => ⟨.bl b, H, I.tok tk, rfl, q⟩
def wIsE (X : Cx) (i : Nat) (cv : Value) : List Ent → (T → Prop) → Prop := fun ρ R => ∃ a C dd fs b, (ρ[i]?.bind Ent.tr) = some (.exc a C dd fs) ∧ PinAt X a C dd ∧ ExcC X.K C ∧ PySem.W.kitOne X.K (.ref C) cv = some b ∧ R (.bl b)
theorem exc_slot {S : Addr → Prop} {ρ : List Ent} {σ : St} {H : Hp} {i : Nat} {a C dd : Addr} {fs : List (Str × V)} (hr : RdS X.K S ρ σ H) (h : (ρ[i]?.bind Ent.tr) = some (.exc a C dd fs)) : σ[i]? = some (some (.ref a)) ∧ H dd = some (.xd fs) := by
  cases e : ρ[i]? with
  | none => rw [e] at h; cases h
  | some en =>
    rw [e] at h
    obtain ⟨v, h1, h2⟩ := hr i en _ e h
    cases h2 with
    | exc h3 _ => exact ⟨h1, h3⟩
theorem tp_isE (i : Nat) (hcv : ∀ u, RelV v u → u = cv) (hg : Gl X "isinstance") (hm : X.mg "isinstance" = none) (hN : X.N[i]? = some x) (hv : Vis X.env.scope x) (hc : PE X (.Name y py) (tC v)) (hd : (x == ("__debug__" : Str)) = false := by decide) (hcd : (x == ("__classdict__" : Str)) = false := by decide)
    (h1 : starEach [.Name x px, .Name y py] X.env = (false, eval (.Name x px) X.env) :: starEach [.Name y py] X.env := by rfl) (h2 : starEach [.Name y py] X.env = (false, eval (.Name y py) X.env) :: starEach [] X.env := by rfl) (hpl : (backTo pos (starEach [.Name y py] X.env)).any (·.1) = false := by rfl) :
    TPE X (.Call (.Name "isinstance" p) [.Name x px, .Name y py] [] pos) (wIsE X i cv) := by
  refine ⟨⟨_, pe_callB (call_isX hcv) hg hm (by decide +kernel) (pa_cons (pe_var hN hv hd hcd) (pa_cons hc pa_nil h2) h1) (by decide) (by decide) h1 hpl, fun S ρ σ H Q R hr hw hq => ?_⟩⟩
  obtain ⟨a, C, dd, fs, b, h3, hp, c, e, hR⟩ := hw
  obtain ⟨s1, s2⟩ := exc_slot hr h3
  exact ⟨.ref a, s1, a, C, dd, fs, b, rfl, hp, s2, c, e, hq _ _ _ hR (Same.refl H) (.bl _)⟩
/-- e.f, e the exception -/
def wFldE (X : Cx) (i : Nat) (f : Str) : List Ent → (T → Prop) → Prop := fun ρ R => ∃ a C dd fs v, (ρ[i]?.bind Ent.tr) = some (.exc a C dd fs) ∧ PinAt X a C dd ∧ XfC X.K C ∧ PySem.W.findIn X.K (.ref C) f = some none ∧ fs.lookup f = some v ∧ flat1 v = true ∧ R (T.ofV v)
theorem tp_fldE (i : Nat) {f : Str} (hN : X.N[i]? = some x) (hv : Vis X.env.scope x) (hd : (x == ("__debug__" : Str)) = false := by decide) (hcd : (x == ("__classdict__" : Str)) = false := by decide)
    (hb : attributeBase (.Name x px) f X.env (eval (.Name x px) X.env) = eval (.Name x px) X.env := by rfl) : TPE X (.Attribute (.Name x px) f pos) (wFldE X i f) := by
  refine ⟨⟨fun σ H Q => ∃ a C dd fs v, σ[i]? = some (some (.ref a)) ∧ PinAt X a C dd ∧ XfC X.K C ∧ PySem.W.findIn X.K (.ref C) f = some none ∧ H dd = some (.xd fs) ∧ fs.lookup f = some v ∧ Q v H, ⟨fun pins s σ H Q I h => ?_⟩, fun S ρ σ H Q R hr hw hq => ?_⟩⟩
  · obtain ⟨a, C, dd, fs, v, h1, hp, xf, no, hdd, hl, q⟩ := h
    refine attr_of hb (thn ((pe_var (pos := px) hN hv hd hcd).run pins s σ H (fun x H1 => x = .ref a ∧ H1 = H) I ⟨_, h1, rfl, rfl⟩) fun u s1 z => ?_)
    obtain ⟨x1, H1, I1, rx, e1, e2⟩ := z
    subst e1 e2
    obtain rfl : u = Value.ref a := rx
    obtain ⟨oe, od, mA, J, hr, hlk⟩ := instAt_pin I1 hp hdd
    obtain ⟨u, hu, ru⟩ := RelO.some_of (v := v) (o := mA f) (by rw [← hl]; exact hr f)
    exact HandSPX.exc_get I1.kIn J xf.ga xf.gg xf.exC (PySem.W.findObj_own xf.hdC no rfl (by rw [hlk, hu])) (handed_of ru) ⟨v, H1, I1.tok _, ru, q⟩
  · obtain ⟨a, C, dd, fs, v, h3, hp, xf, no, hl, hf, hR⟩ := hw
    obtain ⟨s1, s2⟩ := exc_slot hr h3
    exact ⟨a, C, dd, fs, v, s1, hp, xf, no, s2, hl, hq _ _ _ hR (Same.refl H) (shr_ofV hf)⟩
end
end TL
set_option Elab.async false
set_option linter.all false
set_option maxRecDepth 100000
namespace TL
open PySem PySem.Spec PyProof.Rows L2 L2H
/-! ### try: body, except C as n: return g(n) -/
/-- a block's wish told by the slots alone -/
def canS (K : PySem.W.Frag) (W : WX) (u : TEnds → List Ent → Prop) : TS := fun D σ H => ∃ (f : Fm) (τ : List Root) (ρ : List Ent) (De : TEnds), Sta K f τ ρ σ H ∧ Lk K f τ De D W ∧ u De ρ
theorem TSs.can {X : Cx} {W : WX} {sts : List Stmt} {u : TEnds → List Ent → Prop} (h : TSs X W sts u) : PSs X sts (canS X.K W u) := by
  obtain ⟨tt, hp, ht⟩ := h.ok
  refine ⟨fun pins s σ H D I z => ?_⟩
  obtain ⟨f, τ, ρ, De, a, b, c⟩ := z
  exact hp.run pins s σ H D I (ht f τ ρ σ H De D a b c)
/-- around a def of the empty wish nothing is let out -/
theorem takesN0 {X : Cx} : L2N.Takes X (fun _ _ _ _ => False) := fun _ _ x => by
  obtain ⟨_, _, _, _, _, _, _, _, _, _, _, _, _, _, _, _, z⟩ := x
  exact z.elim
section
variable {X : Cx} {W : WX} {n g par cx : Str} {i k : Nat} {a f CP : Addr} {oe : Obj} {fd : FuncData} {sp : Addr × Obj → Sp} {q p pos pos2 pos3 pos' np : Pos} {body : List Stmt} {u : TEnds → List Ent → Prop} {Wf : FnW}
theorem pe_callE (F : FnE X.prog X.w X.K X.mg X.base k f fd [par] sp) (hr : RoomH k X.A) (hot : Hot1 X.A (a, oe)) (hp : (a, oe) ∈ X.pn) (hg : Gl X g) (hm : X.mg g = some (.ref f)) (hk : PySem.W.keepIn X.K (.ref f) = true) (hb : Binds X.K fd [par] []) (hN : X.N[i]? = some n) (hv : Vis X.env.scope n)
    (hd : (n == ("__debug__" : Str)) = false) (hcd : (n == ("__classdict__" : Str)) = false) (hdg : (g == ("__debug__" : Str)) = false) (h1 : starEach [.Name n p] X.env = (false, eval (.Name n p) X.env) :: starEach [] X.env) (hpl : (backTo pos (starEach [] X.env)).any (·.1) = false) :
    PE X (.Call (.Name g q) [.Name n p] [] pos) (fun σ H Q => σ[i]? = some (some (.ref a)) ∧ sp (a, oe) [.ref a] H Q fun _ _ _ => False) := by
  refine ⟨fun pins s σ H Q I h => ?_⟩
  obtain ⟨h2, h3⟩ := h
  refine wpAny_Call_Name_kw (ld_glob I hg hm ?_ hdg)
  refine PySem.W.callWith_K (h₀ := X.base) I.ok.mod.kin hk (thn ((pa_cons (pe_var hN hv hd hcd) pa_nil h1).run pos pins s σ H (fun vs H1 => vs = [.ref a] ∧ H1 = H) I ⟨_, h2, rfl, rfl⟩) fun us s1 z => ?_) h1 hpl
  obtain ⟨vs, H1, I1, rv, e1, e2⟩ := z
  subst e1 e2
  refine ⟨I1.kIn, ?_⟩
  have len := rv.length
  have b := hb s1 us I1.kIn (by rw [List.append_nil, ← len]; rfl)
  rw [List.append_nil] at b
  obtain ⟨g1, g2, g3, g4, g5⟩ := I1.pin (a, oe) (List.mem_append_left _ hp)
  have pin : PinOk X.stack H1 s1 (a, oe) := ⟨g1, g2, fun m => (List.mem_cons.mp (I1.stkSub a m)).elim g3 g4, g5⟩
  show wpAny _ _ (call (.ref f) us) _ _ _
  refine wpAny_call (codeAny_mono (F.run (a, oe) X.A X.stack s1 H1 ⟨us, []⟩ us _ Q (fun _ _ _ => False) hr hot pin I1.env0 b rv h3) fun r s' z => ?_)
  cases r with
  | error e => exact z.elim
  | ok fl =>
    cases fl with
    | ret u => exact I1.after z
    | next => exact z.elim
    | brk => exact z.elim
    | cont => exact z.elim
def tSuiteE (K : PySem.W.Frag) (i : Nat) (Wf : FnW) : Addr → Value → Option Addr → TS := fun a cls d D σ H => σ[i]? = some (some (.ref a)) ∧ ∃ (x : XT) (dd : Addr) (R : Nat → T → Prop), cls = .ref x.C ∧ d = some dd ∧ H dd = some (.xd x.fs) ∧ Wf x R ∧
  ∀ m t v H' S' F, R m t → Same H H' → Own K H' S' m t v F → (∀ a, S' a → fresh (fun b => b = dd) H a ∧ H' a ≠ none) → (∀ a ∈ F, H a = none) → F.Nodup → (∀ a ∈ F, ¬ S' a) → D.rt v H'
def uTryE (K : PySem.W.Frag) (CP : Addr) (i : Nat) (Wf : FnW) (u : TEnds → List Ent → Prop) : TEnds → List Ent → Prop := fun De ρ =>
  u { De with xc := fun x ρ' => PySem.W.exmOne K (.ref x.C) (.ref CP) = some true ∧ i < ρ'.length ∧ Wf x fun m t => t.flatAt m = true ∧ De.rt m t ρ' } ρ
theorem ts_tryE (i : Nat) (hstk : X.stack = X.env :: X.outer) (hfr : X.env.frame = some X.env.locals) (hN : X.N.Nodup) (hi : X.N[i]? = some n) (hln : X.env.kindOf n = some .local) (hv : Vis X.env.scope n) (hc : Names X cx (.ref CP)) (tk : L2N.Takes X W)
    (F : FnE X.prog X.w X.K X.mg X.base k f fd [par] (spE X.K Wf)) (hr : Room k X.A) (hg : Gl X g) (hm : X.mg g = some (.ref f)) (hk : PySem.W.keepIn X.K (.ref f) = true) (hb : Binds X.K fd [par] [])
    (hbody : ∀ (W' : WX) (pn : List (Addr × Obj)) (xe : Value → Shared → Prop), L2N.Takes (X.tr pn xe) W' → PassesOwn (model X.prog X.w) X.A X.env xe → TSs (X.tr pn xe) W' body u)
    (hd : (n == ("__debug__" : Str)) = false := by decide) (hcd : (n == ("__classdict__" : Str)) = false := by decide) (hdg : (g == ("__debug__" : Str)) = false := by decide)
    (h1 : ∀ A' xe' pn', starEach [.Name n p] ({ X with A := A', xe := xe', pn := pn', calm := false } : Cx).env = (false, eval (.Name n p) X.env) :: starEach [] X.env := by intros; rfl) (hpl : (backTo pos (starEach [] X.env)).any (·.1) = false := by rfl) :
    TS1 X W (.Try body [.ExceptHandler (some (.Name cx np)) (some n) [.Return (some (.Call (.Name g q) [.Name n p] [] pos)) pos2] pos'] [] [] pos3) (uTryE X.K CP i Wf u) := by
  refine ⟨⟨fun D σ H => canS X.K (wAs X.K (.ref CP) i (tSuiteE X.K i Wf) W D) u D σ H, ⟨fun pins s σ H D I h => ?_⟩, fun f0 τ ρ σ H De D hs hl hw => ?_⟩⟩
  · refine (L2N.ps_try_as (tb := fun W' => canS X.K W' u) (ts := tSuiteE X.K i Wf) hstk hfr hN hi hln hc tk (fun W' pn xe t1 t2 => (hbody W' pn xe t1 t2).can) fun a oe cls d pn zn fv => ⟨fun pins s σ H D I h => ?_⟩).run pins s σ H D I h
    obtain ⟨h2, x, dd, R, rfl, rfl, hx, hW, hq⟩ := h
    obtain ⟨fv, efv⟩ := fv
    refine (pss_one (ps_ret (pe_callE (X := X.suite a ((a, oe) :: pn)) (a := a) (oe := oe) F ⟨hr.dp, hr.un⟩ ⟨rfl, fv, efv, zn.2.2 fv efv⟩ List.mem_cons_self hg hm hk hb hi hv hd hcd hdg (h1 _ _ _) hpl))).run pins s σ H D I ?_
    exact ⟨h2, x, dd, R, rfl, zn.1, zn.2.1, ⟨fv, efv⟩, hx, hW, hq⟩
  · refine ⟨f0, τ, ρ, { De with xc := fun x ρ' => PySem.W.exmOne X.K (.ref x.C) (.ref CP) = some true ∧ i < ρ'.length ∧ Wf x fun m t => t.flatAt m = true ∧ De.rt m t ρ' }, hs, ⟨hl.nx, hl.rt, hl.bk, hl.ct, fun x ρ' σ' cls d H' hx hs' ex => ?_⟩, hw⟩
    obtain ⟨rfl, dd, rfl, hdd⟩ := ex
    refine ⟨true, hx.1, fun _ a ha => ⟨?_, x, dd, _, rfl, rfl, hdd, hx.2.2, fun m t v H2 S' F hR sm own hS hF nd hn => ?_⟩, fun z => nomatch z⟩
    · obtain ⟨S, rs, s'⟩ := hs'
      exact List.getElem?_set_self (by rw [← s'.lenσ, s'.len]; exact hx.2.1)
    · obtain ⟨S, rs, s'⟩ := hs'
      exact hl.rt m t ρ' σ' v F H2 hR.2 ⟨_, rs, s'.pushO (S' := fun _ => False) sm (own.anyS hR.1 _) nd hF (fun _ z => z.elim) fun _ _ z => z⟩
end
end TL
set_option Elab.async false
set_option linter.all false
set_option maxRecDepth 100000
namespace TL
open PySem PySem.Spec PyProof.Rows L2
/-! ### tuples of ints by < -/
section
variable {K : PySem.W.Frag}
def gLtT : F2 := fun t u R => match t, u with
  | .tup ts, .tup us => ∃ ns ms, ts = ns.map T.int ∧ us = ms.map T.int ∧ R (.bl (HT.lexLt ns ms))
  | _, _ => False
theorem opT_ltT : OpT K (rLtT K) gLtT := by
  intro S H x y t u Q R h1 h2 hg hq
  cases t using T.cs <;> cases u using T.cs <;> first | exact hg.elim | skip
  obtain ⟨ns, ms, rfl, rfl, hR⟩ := hg
  obtain ⟨a, vs, rfl, q1, r1⟩ := shr_tup h1
  obtain ⟨b, ws, rfl, q2, r2⟩ := shr_tup h2
  rw [Shrs.ints r1] at q1
  rw [Shrs.ints r2] at q2
  exact ⟨a, b, ns, ms, rfl, rfl, q1, q2, hq _ _ _ hR (Same.refl H) (.bl _)⟩
/-! ### range down -/
/-- lo, lo - 1, .. -/
def rgD (lo : Int) (n : Nat) : List T := (List.range n).map fun (i : Nat) => T.int (lo - i)
theorem rgD_len {lo : Int} {n : Nat} : (rgD lo n).length = n := by unfold rgD; simp
theorem rgD_get {lo : Int} {n i : Nat} {t : T} : (rgD lo n)[i]? = some t ↔ i < n ∧ t = .int (lo - i) := by
  unfold rgD
  rw [List.getElem?_map]
  by_cases h : i < n
  · rw [List.getElem?_range h]
    simp [h, eq_comm]
  · rw [List.getElem?_eq_none_iff.mpr (by simp; omega)]
    simp [h]
theorem ith_rngD {lo : Int} {n : Nat} : ItH K (Itc lo (-1) n) [] [] (rgD lo n) := by
  refine ⟨rfl, fun i H S _ hi => ?_, fun H S _ => ?_, fun i H S x H' hi _ y => ?_⟩
  · rw [rgD_len] at hi; exact hi
  · rw [rgD_len]; exact Nat.le_refl n
  · rw [rgD_len] at hi
    obtain ⟨rfl, rfl⟩ := y
    have e : lo + (i : Int) * -1 = lo - i := by omega
    refine ⟨.int (lo - i), rgD_get.mpr ⟨hi, rfl⟩, Same.refl _, ?_⟩
    rw [e]
    exact .int _
end
section
variable {X : Cx} {W : WX} {tg a b c e : Expr} {p pos : Pos} {wa wb wc : List Ent → (T → Prop) → Prop}
def iRngD (wa wb wc : List Ent → (T → Prop) → Prop) : List Ent → (List T → List Ent → Prop) → Prop := fun ρ R => wa ρ fun t => wb ρ fun u => wc ρ fun v => match t, u, v with
  | .int i, .int j, .int k => k = -1 ∧ (-(2 ^ 62) ≤ i ∧ i < 2 ^ 62 ∧ -(2 ^ 62) ≤ j ∧ j < 2 ^ 62) ∧ R (rgD i (i - j).toNat) ρ
  | _, _, _ => False
theorem ti_rngD (hg : Gl X "range") (hm : X.mg "range" = none) (ha : TPE X a wa) (hb : TPE X b wb) (hc : TPE X c wc) (h1 : starEach [a, b, c] X.env = (false, eval a X.env) :: starEach [b, c] X.env := by rfl) (h2 : starEach [b, c] X.env = (false, eval b X.env) :: starEach [c] X.env := by rfl) (h3 : starEach [c] X.env = (false, eval c X.env) :: starEach [] X.env := by rfl)
    (hpl : (backTo pos (starEach [b, c] X.env)).any (·.1) = false := by rfl) : TIt X tg (.Call (.Name "range" p) [a, b, c] [] pos) (iRngD wa wb wc) := by
  obtain ⟨ta, pa, ka⟩ := (tpa_cons ha (tpa_cons hb (tpa_cons hc tpa_nil h3) h2) h1).ok
  refine ⟨⟨_, pi_range3 hg hm pa h1 hpl, fun f τ ρ σ H Q R hs hw hq => ?_⟩⟩
  have key : ∀ t u v, (match (t : T), (u : T), (v : T) with
    | .int i, .int j, .int k => k = -1 ∧ (-(2 ^ 62) ≤ i ∧ i < 2 ^ 62 ∧ -(2 ^ 62) ≤ j ∧ j < 2 ^ 62) ∧ R (rgD i (i - j).toNat) ρ
    | _, _, _ => False) = (∃ i j k : Int, [t, u, v] = [.int i, .int j, .int k] ∧ k = -1 ∧ (-(2 ^ 62) ≤ i ∧ i < 2 ^ 62 ∧ -(2 ^ 62) ≤ j ∧ j < 2 ^ 62) ∧ R (rgD i (i - j).toNat) ρ) := by
    intro t u v
    refine propext ⟨fun h => ?_, fun h => ?_⟩
    · cases t <;> cases u <;> cases v <;> first | exact h.elim | exact ⟨_, _, _, rfl, h⟩
    · obtain ⟨i, j, k, e, h⟩ := h
      cases e
      exact h
  refine ka _ ρ σ H _ (fun ts => ∃ i j k : Int, ts = [.int i, .int j, .int k] ∧ k = -1 ∧ (-(2 ^ 62) ≤ i ∧ i < 2 ^ 62 ∧ -(2 ^ 62) ≤ j ∧ j < 2 ^ 62) ∧ R (rgD i (i - j).toNat) ρ) hs.rdAll ?_ fun ts vs H1 h2 s1 x1 => ?_
  · unfold iRngD at hw
    simp only [key] at hw
    exact hw
  · obtain ⟨i, j, k, rfl, rfl, ⟨b1, b2, b3, b4⟩, hR⟩ := h2
    obtain ⟨v1, r1, rfl, x2, x3⟩ := x1.uncons
    obtain ⟨v2, r2, rfl, x4, x5⟩ := x3.uncons
    obtain ⟨v3, r3, rfl, x6, x7⟩ := x5.uncons
    have e : r3 = [] := by have := x7.length; exact List.eq_nil_of_length_eq_zero this.symm
    subst e
    refine ⟨i, j, -1, (i - j).toNat, by rw [shr_int x2, shr_int x4, shr_int x6], RgC.neg b1 b2 b3 b4, hq _ [] [] _ _ _ hR ith_rngD ?_⟩
    rw [show shRoots [] [] = [] from rfl, List.append_nil]
    exact hs.same s1
end
/-! ### sorted: a list of pairs of ints -/
abbrev pr (p : Int × Int) : T := .tup [.int p.1, .int p.2]
def rSortT (K : PySem.W.Frag) : List V → Hp → VK → Prop := fun vs H Q => ∃ (a : Addr) (xs : List V) (ps : List (Int × Int)), vs = [V.ref a] ∧ SqL K H a xs ∧ xs.length = ps.length ∧
  (∀ (i : Nat) (v : V) (q : Int × Int), xs[i]? = some v → ps[i]? = some q → ∃ t, v = .ref t ∧ SqT K H t [.int q.1, .int q.2]) ∧
  ∀ (zs : List (V × (Int × Int))) (p : Addr), zs.Perm (xs.zip ps) → (zs.map (·.2)).Pairwise (fun x y => SrtO.lexB y x = false) → H p = none → Q (.ref p) (upd H p (.lst (zs.map (·.1))))
theorem cr_sortT {X : Cx} : CallR X (.builtin "sorted") (rSortT X.K) := by
  intro pins s σ H vs us Q I r h
  obtain ⟨a, xs, ps, rfl, hs, hlen, hx, q⟩ := h
  obtain ⟨its, rv, hl, hz⟩ := I.list hs
  obtain ⟨u, rfl, ru⟩ := vals1 r
  obtain rfl : u = Value.ref a := ru
  have pairOf : ∀ (i : Nat) (w : Value) (g : Int × Int), its[i]? = some w → ps[i]? = some g → Srt.IsPair s.heap w g.1 g.2 := fun i w g h1 h2 => by
    have hi : i < xs.length := by rw [rv.length]; exact (List.getElem?_eq_some_iff.mp h1).1
    obtain ⟨u, e1, e2⟩ := rv.get (List.getElem?_eq_getElem hi)
    rw [h1] at e1
    have e1 := Option.some.inj e1
    subst e1
    obtain ⟨t, e3, ht⟩ := hx i _ g (List.getElem?_eq_getElem hi) h2
    rw [e3] at e2
    obtain rfl : w = Value.ref t := e2
    obtain ⟨its2, r2, ⟨o, ho, hc, n, hd⟩, _⟩ := I.tuple ht
    obtain ⟨u1, u2, rfl, ri, rj⟩ := vals2 r2
    obtain ⟨t1, rfl⟩ := ri
    obtain ⟨t2, rfl⟩ := rj
    exact ⟨t, o, t1, t2, n, rfl, ho, hc, hd⟩
  -- the pair read off the heap
  let kv : Value → Int × Int := fun w => match TS.intsOf s.heap w with
    | [i, j] => (i, j)
    | _ => (0, 0)
  have kv_of : ∀ {w : Value} {i j : Int}, Srt.IsPair s.heap w i j → kv w = (i, j) := fun {w i j} z => by
    obtain ⟨t, o, t1, t2, n, rfl, ho, hc, hd⟩ := z
    have e : TS.intsOf s.heap (.ref t) = [i, j] := TS.TupInts.ints ⟨t, #[.int i t1, .int j t2], rfl, ⟨o, ho, hc, n, hd⟩, Vals.ints (ns := [i, j]) (.cons ⟨t1, rfl⟩ (.cons ⟨t2, rfl⟩ .nil))⟩
    show (match TS.intsOf s.heap (.ref t) with | [i, j] => (i, j) | _ => (0, 0)) = (i, j)
    rw [e]
  have rl := rv.length
  have kAt : ∀ (i : Nat) (w : Value), its[i]? = some w → ps[i]? = some (kv w) ∧ Srt.IsPair s.heap w (kv w).1 (kv w).2 := fun i w h1 => by
    have hi : i < ps.length := by rw [← hlen, rl]; exact (List.getElem?_eq_some_iff.mp h1).1
    have z := pairOf i w _ h1 (List.getElem?_eq_getElem hi)
    have e := kv_of z
    refine ⟨by rw [List.getElem?_eq_getElem hi, e], ?_⟩
    rw [e]; exact z
  obtain ⟨e1, e2⟩ := refs_back rv fun x m => by
    obtain ⟨i, hi⟩ := List.mem_iff_getElem?.mp m
    have hl2 : i < ps.length := by rw [← hlen]; exact (List.getElem?_eq_some_iff.mp hi).1
    obtain ⟨t, e, _⟩ := hx i x _ hi (List.getElem?_eq_getElem hl2)
    exact ⟨t, e⟩
  have zipE : xs.zip ps = its.map fun w => (backV w, kv w) := by
    apply List.ext_getElem?
    intro i
    rw [List.getElem?_map]
    cases h1 : its[i]? with
    | none =>
      have : its.length ≤ i := List.getElem?_eq_none_iff.mp h1
      rw [List.getElem?_eq_none_iff.mpr (by rw [List.length_zip]; omega)]; rfl
    | some w =>
      obtain ⟨h2, _⟩ := kAt i w h1
      have h3 : xs[i]? = some (backV w) := by rw [e1, List.getElem?_map, h1]; rfl
      rw [List.getElem?_zip_eq_some (z := (backV w, kv w)) |>.mpr ⟨h3, h2⟩]; rfl
  refine SrtO.sorted_pairsO (k := kv) hl.isList (by rw [← rl]; exact hz) (fun v hv => ?_) fun h' d out h1 h2 kp hd hn => ?_
  · obtain ⟨i, hi⟩ := List.mem_iff_getElem?.mp hv
    exact (kAt i v hi).2
  · have h3 : ∀ u ∈ out, ∃ a, u = Value.ref a := fun u hu => e2 u (h2.perm.mem_iff.mp hu)
    obtain ⟨n, hn⟩ := hn
    have Z0 := q (out.map fun w => (backV w, kv w)) d (by rw [zipE]; exact h2.perm.map _) (by rw [List.map_map]; exact SrtO.srtd_map (f := kv) h1) (I.hok.fresh hd)
    rw [List.map_map] at Z0
    have Z : Q (.ref d) (upd H d (.lst (out.map backV))) := Z0
    have lz : (out.map backV).length ≤ sizeLine := by rw [List.length_map, h2.len, ← rl]; exact hz
    exact ⟨.ref d, upd H d (.lst (out.map backV)), I.laid (t' := s.toks) kp hd ⟨lz, out, n, vals_back h3, hn⟩, rfl, Z⟩
section
variable {X : Cx} {e : Expr} {p pos : Pos} {ks : List Nat} {vA : List Ent → (List T → List Ent → Prop) → Prop}
def vSortP (vA : List Ent → (List T → List Ent → Prop) → Prop) : List Ent → (Nat → T → List Ent → Prop) → Prop := fun ρ R => vA ρ fun ts ρ' => ∃ ps : List (Int × Int), ts = [.lst (ps.map pr)] ∧ ∀ qs : List (Int × Int), qs.Perm ps → qs.Pairwise (fun x y => SrtO.lexB y x = false) → R 1 (.lst (qs.map pr)) ρ'
theorem pr_flat (qs : List (Int × Int)) : T.flats (qs.map pr) = true := flatAts_iff.mpr fun t h => by
  obtain ⟨q, _, rfl⟩ := List.mem_map.mp h
  rfl
/-- sorted(e), e pairs of ints -/
theorem tv_sortP (hg : Gl X "sorted") (hm : X.mg "sorted" = none) (ha : TVA X ks [e] vA) (hv : bootBuiltins "sorted" = some (.builtin "sorted") := by decide +kernel) (hs : starEach [e] X.env = (false, eval e X.env) :: starEach [] X.env := by rfl) (hpl : (backTo pos (starEach [] X.env)).any (·.1) = false := by rfl) :
    TVE X (.Call (.Name "sorted" p) [e] [] pos) (vSortP vA) := by
  obtain ⟨ta, pa, ka⟩ := ha.ok
  refine ⟨⟨_, pe_callB cr_sortT hg hm hv pa (by decide) (by decide) hs hpl, fun f τ ρ σ H Q R h1 hw hq => ?_⟩⟩
  refine ka f τ ρ σ H _ _ h1 hw fun ts ρ' vs ms H1 h2 h3 s1 => ?_
  obtain ⟨ps, rfl, hR⟩ := h2
  obtain ⟨v, rfl, x1⟩ := shrs1 (s1.shrs h3)
  obtain ⟨a, xs, rfl, q, r⟩ := shr_lst x1
  have lx : (ps.map pr).length = xs.length := r.length
  rw [List.length_map] at lx
  have item : ∀ (i : Nat) (w : V) (g : Int × Int), xs[i]? = some w → ps[i]? = some g → Shr X.K H1 (fun _ => True) (pr g) w := fun i w g g1 g2 => by
    obtain ⟨w', g3, g4⟩ := r.get (i := i) (t := pr g) (by rw [List.getElem?_map, g2]; rfl)
    rw [g1] at g3
    cases g3
    exact g4
  refine ⟨a, xs, ps, rfl, q.sq, lx.symm, fun i w g g1 g2 => ?_, fun zs p' hp hso hn => ?_⟩
  · obtain ⟨t, vs2, rfl, q2, r2⟩ := shr_tup (item i w g g1 g2)
    have e : vs2 = [.int g.1, .int g.2] := Shrs.ints (is := [g.1, g.2]) r2
    subst e
    exact ⟨t, rfl, q2⟩
  · have mem : ∀ z ∈ zs, Shr X.K H1 (fun _ => True) (pr z.2) z.1 := fun z hz => by
      obtain ⟨i, hi⟩ := List.mem_iff_getElem?.mp (hp.mem_iff.mp hz)
      obtain ⟨g1, g2⟩ := List.getElem?_zip_eq_some.mp hi
      exact item i z.1 z.2 g1 g2
    have shs : ∀ zs : List (V × (Int × Int)), (∀ z ∈ zs, Shr X.K H1 (fun _ => True) (pr z.2) z.1) → Shrs X.K H1 (fun _ => True) ((zs.map (·.2)).map pr) (zs.map (·.1)) := by
      intro zs
      induction zs with
      | nil => exact fun _ => .nil
      | cons z zs ih => exact fun h => Shrs.cons (h z List.mem_cons_self) (ih fun y hy => h y (List.mem_cons_of_mem _ hy))
    have sh := shs zs mem
    have hsm : Same H1 (upd H1 p' (.lst (zs.map (·.1)))) := fun b o e => by rw [upd_ne (ne_of_none e hn)]; exact e
    have sh2 := Owns.keep (S' := fun _ => True) (fun _ z => z) sh (.same hsm)
    obtain ⟨S, rs, s⟩ := s1.pop
    have perm : (zs.map (·.2)).Perm ps := by
      have z := hp.map Prod.snd
      rwa [List.map_snd_zip (by omega)] at z
    exact hq 1 _ ρ' _ _ _ (hR _ perm hso) ⟨S, rs, s.pushNew (kd := .lst) hn rfl ((Owns.flat0 sh2 (pr_flat _)).2 0 S)⟩
end
theorem ltU {k : Nat} {A : Around} (hr : Room k A) : A.units < cLine := by have := hr.un; omega
section
variable {X : Cx} {a b : Expr} {pos : Pos} {wa wb : List Ent → (T → Prop) → Prop}
/-- a new list, two joined -/
def vCat (wa : List Ent → (T → Prop) → Prop) (wb : List Ent → (T → Prop) → Prop) : List Ent → (Nat → T → List Ent → Prop) → Prop := fun ρ R => wa ρ fun t => wb ρ fun u => gCat t u fun z => match z with | .nd .lst ts => T.flats ts = true ∧ R 1 (.lst ts) ρ | _ => False
theorem tv_cat (ha : TPE X a wa) (hb : TPE X b wb) : TVE X (.BinOp a .Add b pos) (vCat wa wb) := by
  obtain ⟨ta, pa, ka⟩ := ha.ok
  obtain ⟨tb, pb, kb⟩ := hb.ok
  refine tv_new (u := fun ρ R => wa ρ fun t => wb ρ fun u => gCat t u fun z => match z with | .nd .lst ts => R ts | _ => False) (pe_op op_cat pa pb) fun S ρ σ H Q R hr hw hq => ?_
  refine ka S ρ σ H _ _ hr hw fun t v H1 h1 s1 x1 => ?_
  refine kb (fresh S H) ρ σ H1 _ _ (hr.same s1) h1 fun u v2 H2 h2 s2 x2 => ?_
  cases t using T.cs <;> first | exact h2.elim | skip
  cases u using T.cs <;> first | exact h2.elim | skip
  obtain ⟨a0, vs, rfl, q, r⟩ := shr_lst (x1.keep (fun _ z => z) (.same s2))
  obtain ⟨b0, ws, rfl, q', r2⟩ := shr_lst (shr_dn x2 s1)
  obtain ⟨g1, g2⟩ := h2
  exact ⟨a0, b0, vs, ws, rfl, rfl, q.1, q'.1, by rw [← r.length, ← r2.length]; exact Nat.le_trans g1 million, fun p hp => hq _ _ H2 g2 (s1.trans s2) (Shrs.append r r2) p hp⟩
variable {va vb : List Ent → (Nat → T → List Ent → Prop) → Prop}
/-- .. of values held -/
def vCatV (va vb : List Ent → (Nat → T → List Ent → Prop) → Prop) : List Ent → (Nat → T → List Ent → Prop) → Prop := fun ρ R => va ρ fun _ t ρ1 => vb ρ1 fun _ u ρ2 => gCat t u fun z => match z with | .nd .lst ts => T.flats ts = true ∧ R 1 (.lst ts) ρ2 | _ => False
theorem tv_catV (ha : TVE X a va) (hb : TVE X b vb) : TVE X (.BinOp a .Add b pos) (vCatV va vb) := by
  obtain ⟨ta, pa, ka⟩ := ha.ok
  obtain ⟨tb, pb, kb⟩ := hb.ok
  refine ⟨⟨_, pe_op op_cat pa pb, fun f τ ρ σ H Q R hs hw hq => ?_⟩⟩
  refine ka f τ ρ σ H _ _ hs hw fun n t ρ1 v1 F1 H1 h1 s1 => ?_
  refine kb f (τ ++ [tmp n t v1 F1]) ρ1 σ H1 _ _ s1 h1 fun m u ρ2 v2 F2 H2 h2 s2 => ?_
  cases t using T.cs <;> first | exact h2.elim | skip
  cases u using T.cs <;> first | exact h2.elim | skip
  obtain ⟨a0, vs, rfl, q, r⟩ := shr_lst s2.pop.last2
  obtain ⟨b0, ws, rfl, q', r'⟩ := shr_lst s2.last2
  obtain ⟨g1, g2, g3⟩ := h2
  refine ⟨a0, b0, vs, ws, rfl, rfl, q.1, q'.1, by rw [← r.length, ← r'.length]; exact Nat.le_trans g1 million, fun p hp => ?_⟩
  obtain ⟨S, rs, s⟩ := s2.pop.pop
  have hsm : Same H2 (upd H2 p (.lst (vs ++ ws))) := fun b o e => by rw [upd_ne (ne_of_none e hp)]; exact e
  have sh := Owns.keep (S' := fun _ => True) (fun _ z => z) (Shrs.append r r') (.same hsm)
  exact hq 1 _ ρ2 _ _ _ g3 ⟨S, rs, s.pushNew (kd := .lst) hp rfl ((Owns.flat0 sh g2).2 0 S)⟩
end
section
variable {X : Cx} {W : WX} {st : Stmt} {sts : List Stmt} {u1 u2 : TEnds → List Ent → Prop}
/-- a statement, told by what holds behind it -/
def uMid (u1 u2 : TEnds → List Ent → Prop) : TEnds → List Ent → Prop := fun De ρ => ∃ mid : List Ent → Prop, u1 { De with nx := mid } ρ ∧ ∀ ρ', mid ρ' → u2 De ρ'
theorem ts_consM (h1 : TS1 X W st u1) (h2 : TSs X W sts u2) : TSs X W (st :: sts) (uMid u1 u2) := by
  obtain ⟨t1, p1, k1⟩ := h1.ok
  obtain ⟨t2, p2, k2⟩ := h2.ok
  refine ⟨⟨_, pss_cons p1 p2, fun f τ ρ σ H De D hs hl hw => ?_⟩⟩
  obtain ⟨mid, hw1, hw2⟩ := hw
  exact k1 f τ ρ σ H { De with nx := mid } _ hs ⟨fun ρ σ H h s => k2 f τ ρ σ H De D s hl (hw2 ρ h), hl.rt, hl.bk, hl.ct, hl.xc⟩ hw1
end
end TL
set_option Elab.async false
set_option linter.all false
set_option maxRecDepth 100000
namespace K89
open PySem PySem.Spec PyProof.Rows L2 TL
def topS (i : Nat) : Stmt := PySem.Challenge.pw_pensionhall_k89_least_stock.main.body.getD i (.Pass ⟨0, 0, 0, 0⟩)
abbrev s_check_kinds : Stmt := topS 17
theorem sc_check_kinds : FnScope ["lacks", "kinds", "index", "price", "supply"] ["lacks", "kinds"] (defScope s_check_kinds) := ⟨rfl, rfl, rfl, by decide +kernel, rfl, by decide +kernel, by decide +kernel⟩
abbrev s_pieces_up_to : Stmt := topS 18
theorem sc_pieces_up_to : FnScope ["kinds", "amounts", "k", "kind", "amount"] ["kinds", "amounts", "k"] (defScope s_pieces_up_to) := ⟨rfl, rfl, rfl, by decide +kernel, rfl, by decide +kernel, by decide +kernel⟩
abbrev s_worths : Stmt := topS 19
theorem sc_worths : FnScope ["lacks", "kinds", "amounts", "tight", "found", "kind", "amount", "last", "k", "lack"] ["lacks", "kinds", "amounts"] (defScope s_worths) := ⟨rfl, rfl, rfl, by decide +kernel, rfl, by decide +kernel, by decide +kernel⟩
abbrev s_least_stock : Stmt := topS 20
theorem sc_least_stock : FnScope ["lacks", "kinds", "amounts", "cheapest", "told", "prices", "rents", "k", "lack", "missing", "_", "at", "kind", "more"] ["lacks", "kinds"] (defScope s_least_stock) := ⟨rfl, rfl, rfl, by decide +kernel, rfl, by decide +kernel, by decide +kernel⟩
abbrev s__law_pool : Stmt := topS 22
theorem sc__law_pool : FnScope ["script", "at", "salt", "cell", "rest"] ["script", "at", "salt"] (defScope s__law_pool) := ⟨rfl, rfl, rfl, by decide +kernel, rfl, by decide +kernel, by decide +kernel⟩
abbrev s__law_mix : Stmt := topS 23
theorem sc__law_mix : FnScope ["seed", "turn", "one", "two", "three"] ["seed", "turn"] (defScope s__law_mix) := ⟨rfl, rfl, rfl, by decide +kernel, rfl, by decide +kernel, by decide +kernel⟩
abbrev s__law_draw : Stmt := topS 24
theorem sc__law_draw : FnScope ["pool", "many", "value"] ["pool", "many"] (defScope s__law_draw) := ⟨rfl, rfl, rfl, by decide +kernel, rfl, by decide +kernel, by decide +kernel⟩
abbrev s__law_pick : Stmt := topS 25
theorem sc__law_pick : FnScope ["pool", "row"] ["pool", "row"] (defScope s__law_pick) := ⟨rfl, rfl, rfl, by decide +kernel, rfl, by decide +kernel, by decide +kernel⟩
abbrev s__law_whole : Stmt := topS 26
theorem sc__law_whole : FnScope ["thing"] ["thing"] (defScope s__law_whole) := ⟨rfl, rfl, rfl, by decide +kernel, rfl, by decide +kernel, by decide +kernel⟩
abbrev s__law_same : Stmt := topS 27
theorem sc__law_same : FnScope ["told", "due", "k", "keys", "key"] ["told", "due"] (defScope s__law_same) := ⟨rfl, rfl, rfl, by decide +kernel, rfl, by decide +kernel, by decide +kernel⟩
abbrev s__law_error : Stmt := topS 28
theorem sc__law_error : FnScope ["e", "told"] ["e"] (defScope s__law_error) := ⟨rfl, rfl, rfl, by decide +kernel, rfl, by decide +kernel, by decide +kernel⟩
abbrev s__law_drawn_lacks : Stmt := topS 29
theorem sc__law_drawn_lacks : FnScope ["pool", "turn", "size", "low", "step", "wide", "lacks", "k", "top"] ["pool"] (defScope s__law_drawn_lacks) := ⟨rfl, rfl, rfl, by decide +kernel, rfl, by decide +kernel, by decide +kernel⟩
abbrev s__law_drawn_kinds : Stmt := topS 30
theorem sc__law_drawn_kinds : FnScope ["pool", "size", "turn", "many", "prices", "supplies", "kinds", "k", "at", "sure"] ["pool", "size"] (defScope s__law_drawn_kinds) := ⟨rfl, rfl, rfl, by decide +kernel, rfl, by decide +kernel, by decide +kernel⟩
abbrev s__law_amounts : Stmt := topS 31
theorem sc__law_amounts : FnScope ["lacks", "kinds", "left", "bought", "k", "turn", "kind", "best", "j", "some"] ["lacks", "kinds"] (defScope s__law_amounts) := ⟨rfl, rfl, rfl, by decide +kernel, rfl, by decide +kernel, by decide +kernel⟩
abbrev s__law_answer : Stmt := topS 32
theorem sc__law_answer : FnScope ["lacks", "kinds", "amounts", "size", "fresh", "j", "tight", "count", "k", "until", "worth", "prices", "last", "kind"] ["lacks", "kinds"] (defScope s__law_answer) := ⟨rfl, rfl, rfl, by decide +kernel, rfl, by decide +kernel, by decide +kernel⟩
abbrev s__law_asked : Stmt := topS 33
theorem sc__law_asked : FnScope ["lacks", "kinds", "e"] ["lacks", "kinds"] (defScope s__law_asked) := ⟨rfl, rfl, rfl, by decide +kernel, rfl, by decide +kernel, by decide +kernel⟩
abbrev s__law_bad_kind : Stmt := topS 34
theorem sc__law_bad_kind : FnScope ["pool", "size", "at", "price", "supply", "far", "bad"] ["pool", "size"] (defScope s__law_bad_kind) := ⟨rfl, rfl, rfl, by decide +kernel, rfl, by decide +kernel, by decide +kernel⟩
abbrev s__law_refused : Stmt := topS 35
theorem sc__law_refused : FnScope ["pool", "lacks", "kinds", "due", "size", "at", "bad", "edge"] ["pool", "lacks", "kinds"] (defScope s__law_refused) := ⟨rfl, rfl, rfl, by decide +kernel, rfl, by decide +kernel, by decide +kernel⟩
abbrev s_law : Stmt := topS 36
theorem sc_law : FnScope ["script", "lacks", "kinds", "due", "handed", "told", "less", "pool", "row", "lack"] ["script"] (defScope s_law) := ⟨rfl, rfl, rfl, by decide +kernel, rfl, by decide +kernel, by decide +kernel⟩
def inS (s : Stmt) (j : Nat) : Stmt := match s with
  | .ClassDef _ _ _ b _ _ _ _ _ _ _ => b.getD j (.Pass ⟨0, 0, 0, 0⟩)
  | _ => .Pass ⟨0, 0, 0, 0⟩
abbrev i_BadNumber : Stmt := inS (topS 2) 0
theorem si_BadNumber : FnScope ["self", "field"] ["self", "field"] (defScope i_BadNumber) := ⟨rfl, rfl, rfl, by decide +kernel, rfl, by decide +kernel, by decide +kernel⟩
structure Gs (K : PySem.W.Frag) (mg : Str → Option Value) where
  g_check_kinds : GF K mg "check_kinds" s_check_kinds ["lacks", "kinds"]
  g_pieces_up_to : GF K mg "pieces_up_to" s_pieces_up_to ["kinds", "amounts", "k"]
  g_worths : GF K mg "worths" s_worths ["lacks", "kinds", "amounts"]
  g_least_stock : GF K mg "least_stock" s_least_stock ["lacks", "kinds"]
  g__law_pool : GF K mg "_law_pool" s__law_pool ["script", "at", "salt"]
  g__law_mix : GF K mg "_law_mix" s__law_mix ["seed", "turn"]
  g__law_draw : GF K mg "_law_draw" s__law_draw ["pool", "many"]
  g__law_pick : GF K mg "_law_pick" s__law_pick ["pool", "row"]
  g__law_whole : GF K mg "_law_whole" s__law_whole ["thing"]
  g__law_same : GF K mg "_law_same" s__law_same ["told", "due"]
  g__law_error : GF K mg "_law_error" s__law_error ["e"]
  g__law_drawn_lacks : GF K mg "_law_drawn_lacks" s__law_drawn_lacks ["pool"]
  g__law_drawn_kinds : GF K mg "_law_drawn_kinds" s__law_drawn_kinds ["pool", "size"]
  g__law_amounts : GF K mg "_law_amounts" s__law_amounts ["lacks", "kinds"]
  g__law_answer : GF K mg "_law_answer" s__law_answer ["lacks", "kinds"]
  g__law_asked : GF K mg "_law_asked" s__law_asked ["lacks", "kinds"]
  g__law_bad_kind : GF K mg "_law_bad_kind" s__law_bad_kind ["pool", "size"]
  g__law_refused : GF K mg "_law_refused" s__law_refused ["pool", "lacks", "kinds"]
  g_law : GF K mg "law" s_law ["script"]
  z_len : mg "len" = none
  z_abs : mg "abs" = none
  z_int : mg "int" = none
  z_sum : mg "sum" = none
  z_max : mg "max" = none
  z_min : mg "min" = none
  z_range : mg "range" = none
  z_enumerate : mg "enumerate" = none
  z_zip : mg "zip" = none
  z_list : mg "list" = none
  z_isinstance : mg "isinstance" = none
  z_bool : mg "bool" = none
  z_str : mg "str" = none
  z_dict : mg "dict" = none
  z_tuple : mg "tuple" = none
  z_sorted : mg "sorted" = none
  z_ValueError : mg "ValueError" = none
  c_kinds : ∃ t, mg "MOST_KINDS" = some (.int 20 t)
  c_price : ∃ t, mg "MOST_PRICE" = some (.int 1000 t)
  c_supply : ∃ t, mg "MOST_SUPPLY" = some (.int 2000 t)
  a_PensionError : Addr
  ga_PensionError : mg "PensionError" = some (.ref a_PensionError)
  a_BadNumber : Addr
  ga_BadNumber : mg "BadNumber" = some (.ref a_BadNumber)
  a_BadDay : Addr
  ga_BadDay : mg "BadDay" = some (.ref a_BadDay)
  a_NoName : Addr
  ga_NoName : mg "NoName" = some (.ref a_NoName)
  a_Clash : Addr
  ga_Clash : mg "Clash" = some (.ref a_Clash)
  a_Full : Addr
  ga_Full : mg "Full" = some (.ref a_Full)
  a_Refused : Addr
  ga_Refused : mg "Refused" = some (.ref a_Refused)
  a_TooFar : Addr
  ga_TooFar : mg "TooFar" = some (.ref a_TooFar)
  a_TooLarge : Addr
  ga_TooLarge : mg "TooLarge" = some (.ref a_TooLarge)
  a_TooMuch : Addr
  ga_TooMuch : mg "TooMuch" = some (.ref a_TooMuch)
  a_BadLine : Addr
  ga_BadLine : mg "BadLine" = some (.ref a_BadLine)
  a_NoUndo : Addr
  ga_NoUndo : mg "NoUndo" = some (.ref a_NoUndo)
  x_BadNumber : XC1 K mg "BadNumber" "BadNumber.__init__" "field" i_BadNumber
  e_BadNumber : x_BadNumber.C = a_BadNumber
  ex_BadNumber : ExcC K x_BadNumber.C
  xf_BadNumber : XfC K x_BadNumber.C
  cp_BadNumber : PySem.W.exmOne K (.ref x_BadNumber.C) (.ref a_PensionError) = some true
  k_BadNumber_BadNumber : PySem.W.kitOne K (.ref x_BadNumber.C) (.ref a_BadNumber) = some true
  k_BadNumber_BadDay : PySem.W.kitOne K (.ref x_BadNumber.C) (.ref a_BadDay) = some false
  k_BadNumber_NoName : PySem.W.kitOne K (.ref x_BadNumber.C) (.ref a_NoName) = some false
  k_BadNumber_Clash : PySem.W.kitOne K (.ref x_BadNumber.C) (.ref a_Clash) = some false
  k_BadNumber_Full : PySem.W.kitOne K (.ref x_BadNumber.C) (.ref a_Full) = some false
  k_BadNumber_Refused : PySem.W.kitOne K (.ref x_BadNumber.C) (.ref a_Refused) = some false
  k_BadNumber_TooFar : PySem.W.kitOne K (.ref x_BadNumber.C) (.ref a_TooFar) = some false
  k_BadNumber_TooLarge : PySem.W.kitOne K (.ref x_BadNumber.C) (.ref a_TooLarge) = some false
  k_BadNumber_TooMuch : PySem.W.kitOne K (.ref x_BadNumber.C) (.ref a_TooMuch) = some false
  k_BadNumber_BadLine : PySem.W.kitOne K (.ref x_BadNumber.C) (.ref a_BadLine) = some false
  k_BadNumber_NoUndo : PySem.W.kitOne K (.ref x_BadNumber.C) (.ref a_NoUndo) = some false
  k_BadNumber_VE : PySem.W.kitOne K (.ref x_BadNumber.C) (.type "ValueError") = some true
section
variable {P : Program} {w : World} {K : PySem.W.Frag} {mg : Str → Option Value} {base : Heap}
theorem ok_iBadNumber {k : Nat} (G : Gs K mg) : FnOk P w K mg base CX0 (k + 1) G.x_BadNumber.fI G.x_BadNumber.d ["self", "field"] (spI1 K "field") := by
  refine G.x_BadNumber.F.ok si_BadNumber (fun vs H Q E h => ?_) (fun cdv A outer s H vs Q E hr h => ⟨_, pss_one (ps_ost (pv 0) (pv 1)), ?_⟩)
  · obtain ⟨a, C, y, rfl, _⟩ := h; rfl
  · obtain ⟨a, C, y, rfl, h1, h2, h3, h4⟩ := h
    exact ⟨_, rfl, _, rfl, a, C, rfl, h1, h2, .inl ⟨h3, fun dx n ne => h4 dx n ne⟩⟩
end
end K89
set_option Elab.async false
set_option linter.all false
set_option maxRecDepth 100000
namespace K89
open PySem PySem.Spec PyProof.Rows L2 L2H TL
theorem ifF {c : Prop} [Decidable c] {A B : Prop} (hc : ¬c) (h : B) : if c then A else B := by rw [if_neg hc]; exact h
theorem ifT {c : Prop} [Decidable c] {A B : Prop} (hc : c) (h : A) : if c then A else B := by rw [if_pos hc]; exact h
theorem ifS {c : Prop} [Decidable c] {A B : Prop} (h1 : c → A) (h2 : ¬c → B) : if c then A else B := by by_cases h : c; rw [if_pos h]; exact h1 h; rw [if_neg h]; exact h2 h
theorem fit0 {n : Nat} {t : T} : fit 0 n t := .inl (Nat.zero_le _)
theorem take_snoc {α : Type} {xs : List α} {i : Nat} {x : α} (h : xs[i]? = some x) : xs.take i ++ [x] = xs.take (i + 1) := by rw [List.take_add_one, h]; rfl
theorem li_snoc {xs : List Int} {i : Nat} {x : Int} (h : xs[i]? = some x) : (xs.take i).map T.int ++ [T.int x] = (xs.take (i + 1)).map T.int := by rw [← take_snoc h, List.map_append]; rfl
theorem take_len {α : Type} {xs : List α} : xs.take xs.length = xs := List.take_length
theorem gp0 {a b c : T} {R : T → Prop} : gIx (T.lst [a, b, c]) (.int 0) R = R a := rfl
theorem gp1 {a b c : T} {R : T → Prop} : gIx (T.lst [a, b, c]) (.int 1) R = R b := rfl
theorem gp2 {a b c : T} {R : T → Prop} : gIx (T.lst [a, b, c]) (.int 2) R = R c := rfl
theorem gq0 {a b c : Int} {R : T → Prop} : gIx (Li [a, b, c]) (.int 0) R = R (.int a) := rfl
theorem gq1 {a b c : Int} {R : T → Prop} : gIx (Li [a, b, c]) (.int 1) R = R (.int b) := rfl
theorem gq2 {a b c : Int} {R : T → Prop} : gIx (Li [a, b, c]) (.int 2) R = R (.int c) := rfl
theorem ix30 : ixN 3 0 = some 0 := rfl
theorem ix32 : ixN 3 2 = some 2 := rfl
theorem gIx_scr {ns : List Int} {i : Nat} {x : Int} {R : T → Prop} (h : ns[i]? = some x) (hR : R (.int x)) : gIx (T.scr ns) (.int (i : Nat)) R := by
  show match atI ns (i : Int) with | some x => R (.int x) | none => False
  rw [atI_natT h]; exact hR
theorem gIx_tup {xs : List T} {i : Nat} {x : T} {R : T → Prop} (h : xs[i]? = some x) (hR : R x) : gIx (.tup xs) (.int (i : Nat)) R := by
  show match atI xs (i : Int) with | some x => R x | none => False
  rw [atI_natT h]; exact hR
theorem cm1 {a b : Int} (h1 : -(2 ^ 64) < a) (h2 : a < 2 ^ 64) : CMul a b := .inl ⟨h1, h2⟩
theorem cm2 {a b : Int} (h1 : -(2 ^ 64) < b) (h2 : b < 2 ^ 64) : CMul a b := .inr ⟨h1, h2⟩
section
variable {P : Program} {w : World} {K : PySem.W.Frag} {mg : Str → Option Value} {base : Heap}
def W__law_pool : FnT := fun ts R => ∃ (ns : List Int) (i s : Int), ts = [.scr ns, .int i, .int s] ∧ 0 ≤ i ∧ ∀ a b, R 1 (Li [a, b, 0]) []
theorem ok__law_pool {k : Nat} (G : Gs K mg) : FnOk P w K mg base CX0 (k + 1) G.g__law_pool.f G.g__law_pool.d ["script", "at", "salt"] (spT K (allSh 3) W__law_pool) := by
  refine fnT (k := k + 0) G.g__law_pool.F sc__law_pool rfl (fun X cdv A outer s H E hX hr => ?_)
  subst hX
  refine ⟨_, (ts_cons (ts_set 3 sc__law_pool.nd rfl (.inl rfl) (tv_p tp_int))
      (ts_cons (ts_if (tvt_p (tpt_cmp op_lt opT_bl (tp_var 1) (tp_callB call_len_seq caT_len (by rfl) G.z_len PySem.boot_len (tpa_cons (tp_var 0) tpa_nil)) (nomark _))) (ts_one (ts_set 3 sc__law_pool.nd rfl (.inl rfl) (tv_p (tp_callB call_abs caT_i (by rfl) G.z_abs (by decide +kernel) (tpa_cons (tp_ix (tp_var 0) (tp_var 1) (fun _ _ => rfl)) tpa_nil))))) ts_nil)
      (ts_cons (ts_set 4 sc__law_pool.nd rfl (.inl rfl) (tv_p tp_int))
      (ts_cons (ts_if (tvt_p (tpt_cmp op_ge opT_bl (tp_var 3) (tp_op op_pow opT_intc tp_int tp_int) (nomark _))) (ts_one (ts_set 4 sc__law_pool.nd rfl (.inl rfl) (tv_p (tp_var 3)))) ts_nil)
      (ts_one (ts_ret (tv_lst 0 (tva_cons 0 (tv_p (tp_var 4)) (tva_cons 0 (tv_p (tp_op op_add opT_int (tp_op op_add opT_int (tp_op op_mod opT_intc (tp_callTy call_int1 caT_int1 (by rfl) G.z_int (by decide +kernel) (tpa_cons (tp_var 3) tpa_nil)) tp_int) (tp_op op_mul opT_intc tp_int (tp_var 2))) (tp_op op_mul opT_intc tp_int (tp_var 1)))) (tva_cons 0 (tv_p tp_int) tva_nil))) (by simp) (by decide)))))))), fun ts R hW hlen => ?_⟩

  obtain ⟨ns, i, s, rfl, h0, h⟩ := hW
  simp -dsimp only [↓uSeq, ↓uNext, ↓uFor, ↓uSt, ↓uStV, ↓uAu, ↓uAp, ↓uApMv, ↓uAuN, ↓uAlias, ↓uDem, ↓uBrk, ↓uCnt, ↓uNev, ↓uRet, ↓uRetN, ↓uExp, ↓uExpP, ↓uRaise1, ↓wCallX, ↓uExpX, ↓uRetX, ↓uSetX, ↓uTryE, ↓gLtT, ↓iRngD, ↓vSortP, ↓vCat, ↓vCatV, ↓gCat, ↓uSet, ↓uSetR, ↓uIf, ↓wVar, ↓wVarV, ↓wC, ↓w1, ↓w2, ↓wT, asB, ↓wChain, ↓wNil, ↓wCons, ↓wAnd, ↓wOr, ↓wNot, ↓wAndV, ↓wOrV, ↓wNotV, ↓wIf, ↓wCallP, ↓wCallV, ↓wCa, ↓wTup, ↓wLst, ↓oNon, ↓oSom, ↓wSlice, ↓wRev, ↓vP, ↓vSh, ↓vFit, ↓vaNil, ↓vaCons, ↓vLst, ↓vTup, ↓vTup0, ↓vList, ↓vRep, ↓vSlice, ↓cSl, ↓vCallN, ↓v1, ↓vCa, ↓vIx, ↓tP, ↓vAnd, ↓vOr, ↓vNot, ↓vIf, ↓vT, ↓v2, ↓vLc, ↓gI2, ↓gI2c, ↓gLen, ↓gII, ↓gI, ↓gInt1, ↓gRep, ↓gKids, ↓gIn, ↓iLst, ↓TL.iTup, ↓TL.iRng1, ↓TL.iRng2, ↓iEn, ↓iZp, ↓hName, ↓hCons, ↓hNil, ↓hTup, ↓wSl, ↓wIsi, ↓wYes, rho0, iniE, entOf, allSh, List.replicate, List.length_cons, List.length_nil, Nat.reduceAdd, Nat.reduceSub, Nat.reduceLT, Nat.reduceLeDiff, List.cons_append, List.nil_append, List.getElem?_cons_zero, List.getElem?_cons_succ, Option.bind_some, Ent.tr, Ent.own, Ent.put, setE, killA, noAl_ow, noAl_io1, noAl_no, noAl_ro, noAl_al', killJ_cons, killJ_nil0, noRo_ow, noRo_io, noRo_no, noRo_al, mem1, notIn, noRA_ow, noRA_io, noRA_no, noRA_al, Plc, demE, List.foldl_cons, List.foldl_nil, List.map_cons, List.map_nil, List.set_cons_zero, List.set_cons_succ, endsOf, ↓outsOf, Option.map_some, plSet, TL.putAt, T.put, true_and, and_true, lst_set, lst_snoc, lm_set, lm_snoc, shOnly, shE_ow0, shE_ow1, shE_io, shE_no, Option.isSome_some, reduceIte, if_true, if_false, Bool.false_eq_true, Nat.reduceEqDiff]
  obtain ⟨j, rfl⟩ := Int.eq_ofNat_of_zero_le h0
  refine ⟨rfl, ifS (fun q => ?_) (fun q => ?_)⟩
  · have q : (j : Int) < ns.length := of_decide_eq_true q
    refine gIx_scr (List.getElem?_eq_getElem (by omega : j < ns.length)) ⟨rfl, rfl, ⟨by decide, by decide, by decide⟩, ifS (fun q2 => ?_) (fun q2 => ?_)⟩
    · exact ⟨rfl, rfl, fit0, by decide, cm1 (by decide) (by decide), cm1 (by decide) (by decide), rfl, fit0, rfl, fit0, h _ _⟩
    · exact ⟨rfl, fit0, by decide, cm1 (by decide) (by decide), cm1 (by decide) (by decide), rfl, fit0, rfl, fit0, h _ _⟩
  · refine ⟨rfl, ⟨by decide, by decide, by decide⟩, ifS (fun q2 => ?_) (fun q2 => ?_)⟩
    · exact ⟨rfl, rfl, fit0, by decide, cm1 (by decide) (by decide), cm1 (by decide) (by decide), rfl, fit0, rfl, fit0, h _ _⟩
    · exact ⟨rfl, fit0, by decide, cm1 (by decide) (by decide), cm1 (by decide) (by decide), rfl, fit0, rfl, fit0, h _ _⟩
def W__law_mix : FnT := fun ts R => ∃ s t : Int, ts = [.int s, .int t] ∧ ∀ v, R 0 (.int v) []
theorem ok__law_mix {k : Nat} (G : Gs K mg) : FnOk P w K mg base CX0 (k + 1) G.g__law_mix.f G.g__law_mix.d ["seed", "turn"] (spT K (allSh 2) W__law_mix) := by
  refine fnT (k := k + 0) G.g__law_mix.F sc__law_mix rfl (fun X cdv A outer s H E hX hr => ?_)
  subst hX
  refine ⟨_, (ts_cons (ts_set 2 sc__law_mix.nd rfl (.inl rfl) (tv_p (tp_op op_mod opT_intc (tp_callTy call_int1 caT_int1 (by rfl) G.z_int (by decide +kernel) (tpa_cons (tp_op op_add opT_int (tp_op op_add opT_int (tp_op op_mul opT_intc (tp_var 0) tp_int) (tp_op op_mul opT_intc (tp_var 1) tp_int)) tp_int) tpa_nil)) tp_int)))
      (ts_cons (ts_set 3 sc__law_mix.nd rfl (.inl rfl) (tv_p (tp_op op_mod opT_intc (tp_callTy call_int1 caT_int1 (by rfl) G.z_int (by decide +kernel) (tpa_cons (tp_op op_add opT_int (tp_op op_add opT_int (tp_op op_mul opT_intc (tp_var 2) (tp_var 2)) (tp_op op_mul opT_intc (tp_var 1) tp_int)) tp_int) tpa_nil)) tp_int)))
      (ts_cons (ts_set 4 sc__law_mix.nd rfl (.inl rfl) (tv_p (tp_op op_mod opT_intc (tp_callTy call_int1 caT_int1 (by rfl) G.z_int (by decide +kernel) (tpa_cons (tp_op op_add opT_int (tp_op op_add opT_int (tp_op op_mul opT_intc (tp_var 3) (tp_var 3)) (tp_var 2)) tp_int) tpa_nil)) tp_int)))
      (ts_one (ts_ret (tv_p (tp_op op_fdivW opT_intc (tp_var 4) tp_int))))))), fun ts R hW hlen => ?_⟩

  obtain ⟨s, t, rfl, h⟩ := hW
  simp -dsimp only [↓uSeq, ↓uNext, ↓uFor, ↓uSt, ↓uStV, ↓uAu, ↓uAp, ↓uApMv, ↓uAuN, ↓uAlias, ↓uDem, ↓uBrk, ↓uCnt, ↓uNev, ↓uRet, ↓uRetN, ↓uExp, ↓uExpP, ↓uRaise1, ↓wCallX, ↓uExpX, ↓uRetX, ↓uSetX, ↓uTryE, ↓gLtT, ↓iRngD, ↓vSortP, ↓vCat, ↓vCatV, ↓gCat, ↓uSet, ↓uSetR, ↓uIf, ↓wVar, ↓wVarV, ↓wC, ↓w1, ↓w2, ↓wT, asB, ↓wChain, ↓wNil, ↓wCons, ↓wAnd, ↓wOr, ↓wNot, ↓wAndV, ↓wOrV, ↓wNotV, ↓wIf, ↓wCallP, ↓wCallV, ↓wCa, ↓wTup, ↓wLst, ↓oNon, ↓oSom, ↓wSlice, ↓wRev, ↓vP, ↓vSh, ↓vFit, ↓vaNil, ↓vaCons, ↓vLst, ↓vTup, ↓vTup0, ↓vList, ↓vRep, ↓vSlice, ↓cSl, ↓vCallN, ↓v1, ↓vCa, ↓vIx, ↓tP, ↓vAnd, ↓vOr, ↓vNot, ↓vIf, ↓vT, ↓v2, ↓vLc, ↓gI2, ↓gI2c, ↓gLen, ↓gII, ↓gI, ↓gInt1, ↓gRep, ↓gKids, ↓gIn, ↓iLst, ↓TL.iTup, ↓TL.iRng1, ↓TL.iRng2, ↓iEn, ↓iZp, ↓hName, ↓hCons, ↓hNil, ↓hTup, ↓wSl, ↓wIsi, ↓wYes, rho0, iniE, entOf, allSh, List.replicate, List.length_cons, List.length_nil, Nat.reduceAdd, Nat.reduceSub, Nat.reduceLT, Nat.reduceLeDiff, List.cons_append, List.nil_append, List.getElem?_cons_zero, List.getElem?_cons_succ, Option.bind_some, Ent.tr, Ent.own, Ent.put, setE, killA, noAl_ow, noAl_io1, noAl_no, noAl_ro, noAl_al', killJ_cons, killJ_nil0, noRo_ow, noRo_io, noRo_no, noRo_al, mem1, notIn, noRA_ow, noRA_io, noRA_no, noRA_al, Plc, demE, List.foldl_cons, List.foldl_nil, List.map_cons, List.map_nil, List.set_cons_zero, List.set_cons_succ, endsOf, ↓outsOf, Option.map_some, plSet, TL.putAt, T.put, true_and, and_true, lst_set, lst_snoc, lm_set, lm_snoc, shOnly, shE_ow0, shE_ow1, shE_io, shE_no, Option.isSome_some, reduceIte, if_true, if_false, Bool.false_eq_true, Nat.reduceEqDiff]
  have m1 : ∀ x : Int, -(2 ^ 64) < x % 2147483647 ∧ x % 2147483647 < 2 ^ 64 := fun x => by omega
  have m2 : ∀ x : Int, -(2 ^ 64) < x % 2147483629 ∧ x % 2147483629 < 2 ^ 64 := fun x => by omega
  exact ⟨cm2 (by decide) (by decide), cm2 (by decide) (by decide), by decide, rfl, cm1 (m1 _).1 (m1 _).2, cm2 (by decide) (by decide), by decide, rfl, cm1 (m2 _).1 (m2 _).2, by decide, rfl, ⟨by decide, by decide⟩, rfl, h _⟩
def W__law_draw : FnT := fun ts R => ∃ a b c m : Int, ts = [Li [a, b, c], .int m] ∧ 0 < m ∧ m < 9223372036854775808 ∧ ∀ v a' c', 0 ≤ v → v < m → R 0 (.int v) [Li [a', b, c']]
theorem ok__law_draw {k : Nat} (G : Gs K mg) : FnOk P w K mg base CX0 (k + 2) G.g__law_draw.f G.g__law_draw.d ["pool", "many"] (spT K [.io 1, .sh] W__law_draw) := by
  refine fnT (k := k + 1) G.g__law_draw.F sc__law_draw rfl (fun X cdv A outer s H E hX hr => ?_)
  subst hX
  refine ⟨_, (ts_cons (ts_if (tvt_p (tpt_cmp op_gt opT_bl (tp_ix (tp_var 0) tp_int (fun _ _ => rfl)) tp_int (nomark _))) (ts_cons (ts_set 2 sc__law_draw.nd rfl (.inl rfl) (tv_p (tp_op op_mod opT_intc (tp_callTy call_int1 caT_int1 (by rfl) G.z_int (by decide +kernel) (tpa_cons (tp_ix (tp_var 0) tp_int (fun _ _ => rfl)) tpa_nil)) (tp_var 1))))
      (ts_cons (ts_store 0 (tv_p (tp_op op_fdivW opT_intc (tp_ix (tp_var 0) tp_int (fun _ _ => rfl)) (tp_var 1))) tp_int)
      (ts_one (ts_ret (tv_p (tp_var 2)))))) ts_nil)
      (ts_cons (ts_store 0 (tv_p (tp_op op_add opT_int (tp_ix (tp_var 0) tp_int (fun _ _ => rfl)) tp_int)) tp_int)
      (ts_one (ts_ret (tv_p (tp_op op_mod opT_intc (tp_callTy call_int1 caT_int1 (by rfl) G.z_int (by decide +kernel) (tpa_cons (tp_call (ok__law_mix (k := k + 0) G) hr (by rfl) G.g__law_mix.g G.g__law_mix.F.kp G.g__law_mix.b (tpa_cons (tp_ix (tp_var 0) tp_int (fun _ _ => rfl)) (tpa_cons (tp_ix (tp_var 0) tp_int (fun _ _ => rfl)) tpa_nil))) tpa_nil)) (tp_var 1))))))), fun ts R hW hlen => ?_⟩

  obtain ⟨a, b, c, m, rfl, h0, h1, h⟩ := hW
  simp -dsimp only [gq0, gq1, gq2, gp0, gp1, gp2, ix30, ix32, ↓uSeq, ↓uNext, ↓uFor, ↓uSt, ↓uStV, ↓uAu, ↓uAp, ↓uApMv, ↓uAuN, ↓uAlias, ↓uDem, ↓uBrk, ↓uCnt, ↓uNev, ↓uRet, ↓uRetN, ↓uExp, ↓uExpP, ↓uRaise1, ↓wCallX, ↓uExpX, ↓uRetX, ↓uSetX, ↓uTryE, ↓gLtT, ↓iRngD, ↓vSortP, ↓vCat, ↓vCatV, ↓gCat, ↓uSet, ↓uSetR, ↓uIf, ↓wVar, ↓wVarV, ↓wC, ↓w1, ↓w2, ↓wT, asB, ↓wChain, ↓wNil, ↓wCons, ↓wAnd, ↓wOr, ↓wNot, ↓wAndV, ↓wOrV, ↓wNotV, ↓wIf, ↓wCallP, ↓wCallV, ↓wCa, ↓wTup, ↓wLst, ↓oNon, ↓oSom, ↓wSlice, ↓wRev, ↓vP, ↓vSh, ↓vFit, ↓vaNil, ↓vaCons, ↓vLst, ↓vTup, ↓vTup0, ↓vList, ↓vRep, ↓vSlice, ↓cSl, ↓vCallN, ↓v1, ↓vCa, ↓vIx, ↓tP, ↓vAnd, ↓vOr, ↓vNot, ↓vIf, ↓vT, ↓v2, ↓vLc, ↓gI2, ↓gI2c, ↓gLen, ↓gII, ↓gI, ↓gInt1, ↓gRep, ↓gKids, ↓gIn, ↓iLst, ↓TL.iTup, ↓TL.iRng1, ↓TL.iRng2, ↓iEn, ↓iZp, ↓hName, ↓hCons, ↓hNil, ↓hTup, ↓wSl, ↓wIsi, ↓wYes, rho0, iniE, entOf, allSh, List.replicate, List.length_cons, List.length_nil, Nat.reduceAdd, Nat.reduceSub, Nat.reduceLT, Nat.reduceLeDiff, List.cons_append, List.nil_append, List.getElem?_cons_zero, List.getElem?_cons_succ, Option.bind_some, Ent.tr, Ent.own, Ent.put, setE, killA, noAl_ow, noAl_io1, noAl_no, noAl_ro, noAl_al', killJ_cons, killJ_nil0, noRo_ow, noRo_io, noRo_no, noRo_al, mem1, notIn, noRA_ow, noRA_io, noRA_no, noRA_al, Plc, demE, List.foldl_cons, List.foldl_nil, List.map_cons, List.map_nil, List.set_cons_zero, List.set_cons_succ, endsOf, ↓outsOf, Option.map_some, plSet, TL.putAt, T.put, true_and, and_true, lst_set, lst_snoc, lm_set, lm_snoc, shOnly, shE_ow0, shE_ow1, shE_io, shE_no, Option.isSome_some, reduceIte, if_true, if_false, Bool.false_eq_true, Nat.reduceEqDiff]
  refine ifS (fun q => ?_) (fun q => ?_)
  · exact ⟨h0, rfl, wide_div h0 (b := 63) (by omega) (by decide) (by decide), rfl, fit0, rfl, h _ _ _ (Int.emod_nonneg _ (by omega)) (Int.emod_lt_of_pos _ h0)⟩
  · exact ⟨rfl, fit0, b, c + 1, rfl, fun v => ⟨h0, rfl, h _ _ _ (Int.emod_nonneg _ (by omega)) (Int.emod_lt_of_pos _ h0)⟩⟩
def W__law_pick : FnT := fun ts R => ∃ (a b c : Int) (xs : List T), ts = [Li [a, b, c], .lst xs] ∧ 0 < xs.length ∧ xs.length ≤ 1000 ∧ ∀ x ∈ xs, ∀ a' c', R 0 x [Li [a', b, c']]
theorem ok__law_pick {k : Nat} (G : Gs K mg) : FnOk P w K mg base CX0 (k + 3) G.g__law_pick.f G.g__law_pick.d ["pool", "row"] (spT K [.io 1, .sh] W__law_pick) := by
  refine fnT (k := k + 2) G.g__law_pick.F sc__law_pick rfl (fun X cdv A outer s H E hX hr => ?_)
  subst hX
  refine ⟨_, (ts_one (ts_ret (tv_ix (tv_var 1) (tv_call (ok__law_draw (k := k + 0) G) hr (by rfl) G.g__law_draw.g G.g__law_draw.F.kp G.g__law_draw.b (tca_sl 0 (tca_tv 0 (tv_p (tp_callB call_len_seq caT_len (by rfl) G.z_len PySem.boot_len (tpa_cons (tp_var 1) tpa_nil))) tca_nil))) (fun _ _ => rfl)))), fun ts R hW hlen => ?_⟩

  obtain ⟨a, b, c, xs, rfl, h0, h1, h⟩ := hW
  simp -dsimp only [↓uSeq, ↓uNext, ↓uFor, ↓uSt, ↓uStV, ↓uAu, ↓uAp, ↓uApMv, ↓uAuN, ↓uAlias, ↓uDem, ↓uBrk, ↓uCnt, ↓uNev, ↓uRet, ↓uRetN, ↓uExp, ↓uExpP, ↓uRaise1, ↓wCallX, ↓uExpX, ↓uRetX, ↓uSetX, ↓uTryE, ↓gLtT, ↓iRngD, ↓vSortP, ↓vCat, ↓vCatV, ↓gCat, ↓uSet, ↓uSetR, ↓uIf, ↓wVar, ↓wVarV, ↓wC, ↓w1, ↓w2, ↓wT, asB, ↓wChain, ↓wNil, ↓wCons, ↓wAnd, ↓wOr, ↓wNot, ↓wAndV, ↓wOrV, ↓wNotV, ↓wIf, ↓wCallP, ↓wCallV, ↓wCa, ↓wTup, ↓wLst, ↓oNon, ↓oSom, ↓wSlice, ↓wRev, ↓vP, ↓vSh, ↓vFit, ↓vaNil, ↓vaCons, ↓vLst, ↓vTup, ↓vTup0, ↓vList, ↓vRep, ↓vSlice, ↓cSl, ↓vCallN, ↓v1, ↓vCa, ↓vIx, ↓tP, ↓vAnd, ↓vOr, ↓vNot, ↓vIf, ↓vT, ↓v2, ↓vLc, ↓gI2, ↓gI2c, ↓gLen, ↓gII, ↓gI, ↓gInt1, ↓gRep, ↓gKids, ↓gIn, ↓iLst, ↓TL.iTup, ↓TL.iRng1, ↓TL.iRng2, ↓iEn, ↓iZp, ↓hName, ↓hCons, ↓hNil, ↓hTup, ↓wSl, ↓wIsi, ↓wYes, rho0, iniE, entOf, allSh, List.replicate, List.length_cons, List.length_nil, Nat.reduceAdd, Nat.reduceSub, Nat.reduceLT, Nat.reduceLeDiff, List.cons_append, List.nil_append, List.getElem?_cons_zero, List.getElem?_cons_succ, Option.bind_some, Ent.tr, Ent.own, Ent.put, setE, killA, noAl_ow, noAl_io1, noAl_no, noAl_ro, noAl_al', killJ_cons, killJ_nil0, noRo_ow, noRo_io, noRo_no, noRo_al, mem1, notIn, noRA_ow, noRA_io, noRA_no, noRA_al, Plc, demE, List.foldl_cons, List.foldl_nil, List.map_cons, List.map_nil, List.set_cons_zero, List.set_cons_succ, endsOf, ↓outsOf, Option.map_some, plSet, TL.putAt, T.put, true_and, and_true, lst_set, lst_snoc, lm_set, lm_snoc, shOnly, shE_ow0, shE_ow1, shE_io, shE_no, Option.isSome_some, reduceIte, if_true, if_false, Bool.false_eq_true, Nat.reduceEqDiff]
  refine ⟨rfl, fit0, a, b, c, _, rfl, by omega, by omega, fun v a' c' hv0 hv1 => ?_⟩
  obtain ⟨j, rfl⟩ := Int.eq_ofNat_of_zero_le hv0
  have hj : xs[j]? = some (xs[j]'(by omega)) := List.getElem?_eq_getElem (by omega)
  show (match atI xs (j : Int) with | some z => R (0 - 1) z [Li [a', b, c']] | none => False)
  rw [atI_natT hj]
  exact h _ (List.getElem_mem _) a' c'
def W__law_whole : FnT := fun ts R => ∃ t, ts = [t] ∧ t.tyn.isSome = true ∧ R 0 (.bl (isT .int t && !isT .bool t)) []
theorem ok__law_whole {k : Nat} (G : Gs K mg) : FnOk P w K mg base CX0 (k + 1) G.g__law_whole.f G.g__law_whole.d ["thing"] (spT K (allSh 1) W__law_whole) := by
  refine fnT (k := k + 0) G.g__law_whole.F sc__law_whole rfl (fun X cdv A outer s H E hX hr => ?_)
  subst hX
  refine ⟨_, (ts_one (ts_ret (tv_p (tp_and (tp_isi .int (by rfl) G.z_isinstance (by rfl) G.z_int (by decide +kernel) (tp_var 0)) (tp_one (tp_not (tp_isi .bool (by rfl) G.z_isinstance (by rfl) G.z_bool (by decide +kernel) (tp_var 0)))))))), fun ts R hW hlen => ?_⟩

  obtain ⟨t, rfl, h0, h⟩ := hW
  simp -dsimp only [↓uSeq, ↓uNext, ↓uFor, ↓uSt, ↓uStV, ↓uAu, ↓uAp, ↓uApMv, ↓uAuN, ↓uAlias, ↓uDem, ↓uBrk, ↓uCnt, ↓uNev, ↓uRet, ↓uRetN, ↓uExp, ↓uExpP, ↓uRaise1, ↓wCallX, ↓uExpX, ↓uRetX, ↓uSetX, ↓uTryE, ↓gLtT, ↓iRngD, ↓vSortP, ↓vCat, ↓vCatV, ↓gCat, ↓uSet, ↓uSetR, ↓uIf, ↓wVar, ↓wVarV, ↓wC, ↓w1, ↓w2, ↓wT, asB, ↓wChain, ↓wNil, ↓wCons, ↓wAnd, ↓wOr, ↓wNot, ↓wAndV, ↓wOrV, ↓wNotV, ↓wIf, ↓wCallP, ↓wCallV, ↓wCa, ↓wTup, ↓wLst, ↓oNon, ↓oSom, ↓wSlice, ↓wRev, ↓vP, ↓vSh, ↓vFit, ↓vaNil, ↓vaCons, ↓vLst, ↓vTup, ↓vTup0, ↓vList, ↓vRep, ↓vSlice, ↓cSl, ↓vCallN, ↓v1, ↓vCa, ↓vIx, ↓tP, ↓vAnd, ↓vOr, ↓vNot, ↓vIf, ↓vT, ↓v2, ↓vLc, ↓gI2, ↓gI2c, ↓gLen, ↓gII, ↓gI, ↓gInt1, ↓gRep, ↓gKids, ↓gIn, ↓iLst, ↓TL.iTup, ↓TL.iRng1, ↓TL.iRng2, ↓iEn, ↓iZp, ↓hName, ↓hCons, ↓hNil, ↓hTup, ↓wSl, ↓wIsi, ↓wYes, rho0, iniE, entOf, allSh, List.replicate, List.length_cons, List.length_nil, Nat.reduceAdd, Nat.reduceSub, Nat.reduceLT, Nat.reduceLeDiff, List.cons_append, List.nil_append, List.getElem?_cons_zero, List.getElem?_cons_succ, Option.bind_some, Ent.tr, Ent.own, Ent.put, setE, killA, noAl_ow, noAl_io1, noAl_no, noAl_ro, noAl_al', killJ_cons, killJ_nil0, noRo_ow, noRo_io, noRo_no, noRo_al, mem1, notIn, noRA_ow, noRA_io, noRA_no, noRA_al, Plc, demE, List.foldl_cons, List.foldl_nil, List.map_cons, List.map_nil, List.set_cons_zero, List.set_cons_succ, endsOf, ↓outsOf, Option.map_some, plSet, TL.putAt, T.put, true_and, and_true, lst_set, lst_snoc, lm_set, lm_snoc, shOnly, shE_ow0, shE_ow1, shE_io, shE_no, Option.isSome_some, reduceIte, if_true, if_false, Bool.false_eq_true, Nat.reduceEqDiff]
  refine ⟨h0, ?_⟩
  cases e : isT .int t with
  | true =>
    rw [e, Bool.true_and] at h
    exact ⟨h0, rfl, h⟩
  | false =>
    rw [e, Bool.false_and] at h
    exact ⟨rfl, h⟩
-- the trees that are compared
mutual
def smlT : T → Bool
  | .tup ts => decide (ts.length ≤ 1000000) && smlTs ts
  | .nd .lst ts => decide (ts.length ≤ 1000000) && smlTs ts
  | _ => true
def smlTs : List T → Bool
  | [] => true
  | t :: ts => smlT t && smlTs ts
end
theorem smlTs_iff : ∀ {ts : List T}, smlTs ts = true ↔ ∀ t ∈ ts, smlT t = true
  | [] => by simp [smlTs]
  | t :: ts => by rw [smlTs, Bool.and_eq_true, smlTs_iff]; simp
def W__law_same (n : Nat) : FnT := fun ts R => ∃ t, ts = [t, t] ∧ n ≤ 60 ∧ t.okd n = true ∧ smlT t = true ∧ R 0 (.bl true) []
theorem ok__law_same : ∀ (n : Nat) {k : Nat} (G : Gs K mg), FnOk P w K mg base CX0 (k + (n + 2)) G.g__law_same.f G.g__law_same.d ["told", "due"] (spT K (allSh 2) (W__law_same n))
  | 0, k, G => by
    refine fnT (k := k + 1) G.g__law_same.F sc__law_same rfl (fun X cdv A outer s H E hX hr => ?_)
    subst hX
    refine ⟨_, (ts_cons (ts_if (tvt_p (tpt_cmp op_isN opT_isN (tp_var 1) tp_non (nomark _))) (ts_one (ts_ret (tv_p (tp_cmp op_isN opT_isN (tp_var 0) tp_non (nomark _))))) ts_nil)
      (ts_cons (ts_if (tvt_p (TPW.pt (tpw_or (tpt_cmp op_isBV opT_isBV (tp_var 1) tp_bl (nomark _)) (tpw_or1 (tpt_cmp op_isBV opT_isBV (tp_var 1) tp_bl (nomark _)))))) (ts_one (ts_ret (tv_p (tp_and (tp_isi .bool (by rfl) G.z_isinstance (by rfl) G.z_bool (by decide +kernel) (tp_var 0)) (tp_one (tp_cmp (op_eqD (eqU hr)) opT_eqD (tp_var 0) (tp_var 1) (nomark _))))))) ts_nil)
      (ts_cons (ts_if (tvt_p (tpt_val (tp_isi .int (by rfl) G.z_isinstance (by rfl) G.z_int (by decide +kernel) (tp_var 1)))) (ts_one (ts_ret (tv_p (tp_and (tp_call (ok__law_whole (k := k + 0) G) hr (by rfl) G.g__law_whole.g G.g__law_whole.F.kp G.g__law_whole.b (tpa_cons (tp_var 0) tpa_nil)) (tp_one (tp_cmp (op_eqD (eqU hr)) opT_eqD (tp_var 0) (tp_var 1) (nomark _))))))) ts_nil)
      (ts_cons (ts_if (tvt_p (tpt_val (tp_isi .str (by rfl) G.z_isinstance (by rfl) G.z_str (by decide +kernel) (tp_var 1)))) (ts_one (ts_ret (tv_p (tp_and (tp_isi .str (by rfl) G.z_isinstance (by rfl) G.z_str (by decide +kernel) (tp_var 0)) (tp_one (tp_cmp (op_eqD (eqU hr)) opT_eqD (tp_var 0) (tp_var 1) (nomark _))))))) ts_nil)
      (ts_cons (ts_if (tvt_p (tpt_val (tp_isi .dict (by rfl) G.z_isinstance (by rfl) G.z_dict (by decide +kernel) (tp_var 1)))) tss_never ts_nil)
      (ts_cons ts_never
      (ts_cons ts_never
      (ts_cons ts_never
      (ts_cons ts_never
      (ts_one (ts_ret (tv_p tp_bl)))))))))))), fun ts R hW hlen => ?_⟩
    obtain ⟨t, rfl, h60, h1, h2, h⟩ := hW
    have he := okd_eqok h1 (by omega)
    have hv := okd_refl h1
    have hty : t.tyn.isSome = true := by cases t using T.cs <;> first | rfl | exact absurd (show false = true from h1) Bool.false_ne_true
    simp -dsimp only [he, hv, hty, isNon, isBl, ↓uSeq, ↓uNext, ↓uFor, ↓uSt, ↓uStV, ↓uAu, ↓uAp, ↓uApMv, ↓uAuN, ↓uAlias, ↓uDem, ↓uBrk, ↓uCnt, ↓uNev, ↓uRet, ↓uRetN, ↓uExp, ↓uExpP, ↓uRaise1, ↓wCallX, ↓uExpX, ↓uRetX, ↓uSetX, ↓uTryE, ↓gLtT, ↓iRngD, ↓vSortP, ↓vCat, ↓vCatV, ↓gCat, ↓uSet, ↓uSetR, ↓uIf, ↓wVar, ↓wVarV, ↓wC, ↓w1, ↓w2, ↓wT, asB, ↓wChain, ↓wNil, ↓wCons, ↓wAnd, ↓wOr, ↓wNot, ↓wAndV, ↓wOrV, ↓wNotV, ↓wIf, ↓wCallP, ↓wCallV, ↓wCa, ↓wTup, ↓wLst, ↓oNon, ↓oSom, ↓wSlice, ↓wRev, ↓vP, ↓vSh, ↓vFit, ↓vaNil, ↓vaCons, ↓vLst, ↓vTup, ↓vTup0, ↓vList, ↓vRep, ↓vSlice, ↓cSl, ↓vCallN, ↓v1, ↓vCa, ↓vIx, ↓tP, ↓vAnd, ↓vOr, ↓vNot, ↓vIf, ↓vT, ↓v2, ↓vLc, ↓gI2, ↓gI2c, ↓gLen, ↓gII, ↓gI, ↓gInt1, ↓gRep, ↓gKids, ↓gIn, ↓iLst, ↓TL.iTup, ↓TL.iRng1, ↓TL.iRng2, ↓iEn, ↓iZp, ↓hName, ↓hCons, ↓hNil, ↓hTup, ↓wSl, ↓wIsi, ↓wYes, rho0, iniE, entOf, allSh, List.replicate, List.length_cons, List.length_nil, Nat.reduceAdd, Nat.reduceSub, Nat.reduceLT, Nat.reduceLeDiff, List.cons_append, List.nil_append, List.getElem?_cons_zero, List.getElem?_cons_succ, Option.bind_some, Ent.tr, Ent.own, Ent.put, setE, killA, noAl_ow, noAl_io1, noAl_no, noAl_ro, noAl_al', killJ_cons, killJ_nil0, noRo_ow, noRo_io, noRo_no, noRo_al, mem1, notIn, noRA_ow, noRA_io, noRA_no, noRA_al, Plc, demE, List.foldl_cons, List.foldl_nil, List.map_cons, List.map_nil, List.set_cons_zero, List.set_cons_succ, endsOf, ↓outsOf, Option.map_some, plSet, TL.putAt, T.put, true_and, and_true, lst_set, lst_snoc, lm_set, lm_snoc, shOnly, shE_ow0, shE_ow1, shE_io, shE_no, Option.isSome_some, reduceIte, if_true, if_false, Bool.false_eq_true, Nat.reduceEqDiff]
    have nf := Bool.false_ne_true
    cases t using T.cs with
    | non => exact ifT rfl ⟨rfl, h⟩
    | bl b =>
      cases b with
      | true => exact ifF nf (ifT rfl (ifT rfl ⟨rfl, h⟩))
      | false => exact ifF nf (ifF nf (ifT rfl (ifT rfl ⟨rfl, h⟩)))
    | int i => exact ifF nf (ifF nf (ifF nf (ifT rfl ⟨_, rfl, rfl, ifT rfl ⟨rfl, h⟩⟩)))
    | str s => exact ifF nf (ifF nf (ifF nf (ifF nf (ifT rfl (ifT rfl ⟨rfl, h⟩)))))
    | _ => exact absurd (show false = true from h1) nf
  | n + 1, k, G => by
    have IH := @ok__law_same n k G
    refine fnT (k := k + (n + 2)) G.g__law_same.F sc__law_same rfl (fun X cdv A outer s H E hX hr => ?_)
    subst hX
    refine ⟨_, (ts_cons (ts_if (tvt_p (tpt_cmp op_isN opT_isN (tp_var 1) tp_non (nomark _))) (ts_one (ts_ret (tv_p (tp_cmp op_isN opT_isN (tp_var 0) tp_non (nomark _))))) ts_nil)
      (ts_cons (ts_if (tvt_p (TPW.pt (tpw_or (tpt_cmp op_isBV opT_isBV (tp_var 1) tp_bl (nomark _)) (tpw_or1 (tpt_cmp op_isBV opT_isBV (tp_var 1) tp_bl (nomark _)))))) (ts_one (ts_ret (tv_p (tp_and (tp_isi .bool (by rfl) G.z_isinstance (by rfl) G.z_bool (by decide +kernel) (tp_var 0)) (tp_one (tp_cmp (op_eqD (eqU hr)) opT_eqD (tp_var 0) (tp_var 1) (nomark _))))))) ts_nil)
      (ts_cons (ts_if (tvt_p (tpt_val (tp_isi .int (by rfl) G.z_isinstance (by rfl) G.z_int (by decide +kernel) (tp_var 1)))) (ts_one (ts_ret (tv_p (tp_and (tp_call (ok__law_whole (k := k + (n + 1)) G) hr (by rfl) G.g__law_whole.g G.g__law_whole.F.kp G.g__law_whole.b (tpa_cons (tp_var 0) tpa_nil)) (tp_one (tp_cmp (op_eqD (eqU hr)) opT_eqD (tp_var 0) (tp_var 1) (nomark _))))))) ts_nil)
      (ts_cons (ts_if (tvt_p (tpt_val (tp_isi .str (by rfl) G.z_isinstance (by rfl) G.z_str (by decide +kernel) (tp_var 1)))) (ts_one (ts_ret (tv_p (tp_and (tp_isi .str (by rfl) G.z_isinstance (by rfl) G.z_str (by decide +kernel) (tp_var 0)) (tp_one (tp_cmp (op_eqD (eqU hr)) opT_eqD (tp_var 0) (tp_var 1) (nomark _))))))) ts_nil)
      (ts_cons (ts_if (tvt_p (tpt_val (tp_isi .dict (by rfl) G.z_isinstance (by rfl) G.z_dict (by decide +kernel) (tp_var 1)))) tss_never ts_nil)
      (ts_cons (ts_if (tvt_p (TPW.pt (tpw_and (tpt_val (tp_isi .list (by rfl) G.z_isinstance (by rfl) G.z_list (by decide +kernel) (tp_var 1))) (tpw_and1 (tpt_not (tpt_val (tp_isi .list (by rfl) G.z_isinstance (by rfl) G.z_list (by decide +kernel) (tp_var 0)))))))) (ts_one (ts_ret (tv_p tp_bl))) ts_nil)
      (ts_cons (ts_if (tvt_p (TPW.pt (tpw_and (tpt_val (tp_isi .tup (by rfl) G.z_isinstance (by rfl) G.z_tuple (by decide +kernel) (tp_var 1))) (tpw_and1 (tpt_not (tpt_val (tp_isi .tup (by rfl) G.z_isinstance (by rfl) G.z_tuple (by decide +kernel) (tp_var 0)))))))) (ts_one (ts_ret (tv_p tp_bl))) ts_nil)
      (ts_cons (ts_if (tvt_p (tpt_cmp op_ne opT_neS (tp_callB call_len_seq caT_len (by rfl) G.z_len PySem.boot_len (tpa_cons (tp_var 0) tpa_nil)) (tp_callB call_len_seq caT_len (by rfl) G.z_len PySem.boot_len (tpa_cons (tp_var 1) tpa_nil)) (nomark _))) (ts_one (ts_ret (tv_p tp_bl))) ts_nil)
      (ts_cons (ts_for PassesOwn.never rfl (ti_rng1 (by rfl) G.z_range (tp_callB call_len_seq caT_len (by rfl) G.z_len PySem.boot_len (tpa_cons (tp_var 1) tpa_nil))) (tg_name 2 sc__law_same.nd rfl (.inl rfl)) (ts_one (ts_if (tvt_p (tpt_not (tpt_val (tp_call IH hr (by rfl) G.g__law_same.g G.g__law_same.F.kp G.g__law_same.b (tpa_cons (tp_ix (tp_var 0) (tp_var 2) (fun _ _ => rfl)) (tpa_cons (tp_ix (tp_var 1) (tp_var 2) (fun _ _ => rfl)) tpa_nil)))))) (ts_one (ts_ret (tv_p tp_bl))) ts_nil)))
      (ts_one (ts_ret (tv_p tp_bl)))))))))))), fun ts R hW hlen => ?_⟩
    obtain ⟨t, rfl, h60, h1, h2, h⟩ := hW
    have he := okd_eqok h1 (by omega)
    have hv := okd_refl h1
    have hty : t.tyn.isSome = true := by cases t using T.cs <;> first | rfl | exact absurd (show false = true from h1) Bool.false_ne_true
    simp -dsimp only [he, hv, hty, isNon, isBl, ↓uSeq, ↓uNext, ↓uFor, ↓uSt, ↓uStV, ↓uAu, ↓uAp, ↓uApMv, ↓uAuN, ↓uAlias, ↓uDem, ↓uBrk, ↓uCnt, ↓uNev, ↓uRet, ↓uRetN, ↓uExp, ↓uExpP, ↓uRaise1, ↓wCallX, ↓uExpX, ↓uRetX, ↓uSetX, ↓uTryE, ↓gLtT, ↓iRngD, ↓vSortP, ↓vCat, ↓vCatV, ↓gCat, ↓uSet, ↓uSetR, ↓uIf, ↓wVar, ↓wVarV, ↓wC, ↓w1, ↓w2, ↓wT, asB, ↓wChain, ↓wNil, ↓wCons, ↓wAnd, ↓wOr, ↓wNot, ↓wAndV, ↓wOrV, ↓wNotV, ↓wIf, ↓wCallP, ↓wCallV, ↓wCa, ↓wTup, ↓wLst, ↓oNon, ↓oSom, ↓wSlice, ↓wRev, ↓vP, ↓vSh, ↓vFit, ↓vaNil, ↓vaCons, ↓vLst, ↓vTup, ↓vTup0, ↓vList, ↓vRep, ↓vSlice, ↓cSl, ↓vCallN, ↓v1, ↓vCa, ↓vIx, ↓tP, ↓vAnd, ↓vOr, ↓vNot, ↓vIf, ↓vT, ↓v2, ↓vLc, ↓gI2, ↓gI2c, ↓gLen, ↓gII, ↓gI, ↓gInt1, ↓gRep, ↓gKids, ↓gIn, ↓iLst, ↓TL.iTup, ↓TL.iRng1, ↓TL.iRng2, ↓iEn, ↓iZp, ↓hName, ↓hCons, ↓hNil, ↓hTup, ↓wSl, ↓wIsi, ↓wYes, rho0, iniE, entOf, allSh, List.replicate, List.length_cons, List.length_nil, Nat.reduceAdd, Nat.reduceSub, Nat.reduceLT, Nat.reduceLeDiff, List.cons_append, List.nil_append, List.getElem?_cons_zero, List.getElem?_cons_succ, Option.bind_some, Ent.tr, Ent.own, Ent.put, setE, killA, noAl_ow, noAl_io1, noAl_no, noAl_ro, noAl_al', killJ_cons, killJ_nil0, noRo_ow, noRo_io, noRo_no, noRo_al, mem1, notIn, noRA_ow, noRA_io, noRA_no, noRA_al, Plc, demE, List.foldl_cons, List.foldl_nil, List.map_cons, List.map_nil, List.set_cons_zero, List.set_cons_succ, endsOf, ↓outsOf, Option.map_some, plSet, TL.putAt, T.put, true_and, and_true, lst_set, lst_snoc, lm_set, lm_snoc, shOnly, shE_ow0, shE_ow1, shE_io, shE_no, Option.isSome_some, reduceIte, if_true, if_false, Bool.false_eq_true, Nat.reduceEqDiff]
    have nf := Bool.false_ne_true
    cases t using T.cs with
    | non => exact ifT rfl ⟨rfl, h⟩
    | bl b =>
      cases b with
      | true => exact ifF nf (ifT rfl (ifT rfl ⟨rfl, h⟩))
      | false => exact ifF nf (ifF nf (ifT rfl (ifT rfl ⟨rfl, h⟩)))
    | int i => exact ifF nf (ifF nf (ifF nf (ifT rfl ⟨_, rfl, rfl, ifT rfl ⟨rfl, h⟩⟩)))
    | str s => exact ifF nf (ifF nf (ifF nf (ifF nf (ifT rfl (ifT rfl ⟨rfl, h⟩)))))
    | lst us =>
      have h1 : T.okds us n = true := h1
      have h2 : (decide (us.length ≤ 1000000) && smlTs us) = true := by rw [smlT] at h2; exact h2
      rw [Bool.and_eq_true, decide_eq_true_eq] at h2
      refine ifF nf (ifF nf (ifF nf (ifF nf (ifF nf (ifF nf (ifT rfl (ifF nf (ifF nf (ifF (by simp) ⟨by omega, by omega, fun _ ρ => ∃ x2 x3 x4, ρ = [Ent.ow 0 (T.lst us), Ent.ow 0 (T.lst us), x2, x3, x4], ⟨_, _, _, rfl⟩, fun i t ρ hi hI => ?_, fun ρ hI => ?_⟩)))))))))
      · obtain ⟨x2, x3, x4, rfl⟩ := hI
        obtain ⟨hlt, rfl⟩ := rgT_get.mp hi
        rw [Int.zero_add]
        rw [Int.toNat_natCast] at hlt
        have hu := List.getElem?_eq_getElem hlt
        have hm := List.getElem_mem hlt
        simp -dsimp only [↓uSeq, ↓uNext, ↓uFor, ↓uSt, ↓uStV, ↓uAu, ↓uAp, ↓uApMv, ↓uAuN, ↓uAlias, ↓uDem, ↓uBrk, ↓uCnt, ↓uNev, ↓uRet, ↓uRetN, ↓uExp, ↓uExpP, ↓uRaise1, ↓wCallX, ↓uExpX, ↓uRetX, ↓uSetX, ↓uTryE, ↓gLtT, ↓iRngD, ↓vSortP, ↓vCat, ↓vCatV, ↓gCat, ↓uSet, ↓uSetR, ↓uIf, ↓wVar, ↓wVarV, ↓wC, ↓w1, ↓w2, ↓wT, asB, ↓wChain, ↓wNil, ↓wCons, ↓wAnd, ↓wOr, ↓wNot, ↓wAndV, ↓wOrV, ↓wNotV, ↓wIf, ↓wCallP, ↓wCallV, ↓wCa, ↓wTup, ↓wLst, ↓oNon, ↓oSom, ↓wSlice, ↓wRev, ↓vP, ↓vSh, ↓vFit, ↓vaNil, ↓vaCons, ↓vLst, ↓vTup, ↓vTup0, ↓vList, ↓vRep, ↓vSlice, ↓cSl, ↓vCallN, ↓v1, ↓vCa, ↓vIx, ↓tP, ↓vAnd, ↓vOr, ↓vNot, ↓vIf, ↓vT, ↓v2, ↓vLc, ↓gI2, ↓gI2c, ↓gLen, ↓gII, ↓gI, ↓gInt1, ↓gRep, ↓gKids, ↓gIn, ↓iLst, ↓TL.iTup, ↓TL.iRng1, ↓TL.iRng2, ↓iEn, ↓iZp, ↓hName, ↓hCons, ↓hNil, ↓hTup, ↓wSl, ↓wIsi, ↓wYes, rho0, iniE, entOf, allSh, List.replicate, List.length_cons, List.length_nil, Nat.reduceAdd, Nat.reduceSub, Nat.reduceLT, Nat.reduceLeDiff, List.cons_append, List.nil_append, List.getElem?_cons_zero, List.getElem?_cons_succ, Option.bind_some, Ent.tr, Ent.own, Ent.put, setE, killA, noAl_ow, noAl_io1, noAl_no, noAl_ro, noAl_al', killJ_cons, killJ_nil0, noRo_ow, noRo_io, noRo_no, noRo_al, mem1, notIn, noRA_ow, noRA_io, noRA_no, noRA_al, Plc, demE, List.foldl_cons, List.foldl_nil, List.map_cons, List.map_nil, List.set_cons_zero, List.set_cons_succ, endsOf, ↓outsOf, Option.map_some, plSet, TL.putAt, T.put, true_and, and_true, lst_set, lst_snoc, lm_set, lm_snoc, shOnly, shE_ow0, shE_ow1, shE_io, shE_no, Option.isSome_some, reduceIte, if_true, if_false, Bool.false_eq_true, Nat.reduceEqDiff]
        exact gIx_lst hu (gIx_lst hu ⟨_, rfl, by omega, okds_iff.mp h1 _ hm, smlTs_iff.mp h2.2 _ hm, ifF nf ⟨_, _, _, rfl⟩⟩)
      · obtain ⟨x2, x3, x4, rfl⟩ := hI
        simp -dsimp only [↓uSeq, ↓uNext, ↓uFor, ↓uSt, ↓uStV, ↓uAu, ↓uAp, ↓uApMv, ↓uAuN, ↓uAlias, ↓uDem, ↓uBrk, ↓uCnt, ↓uNev, ↓uRet, ↓uRetN, ↓uExp, ↓uExpP, ↓uRaise1, ↓wCallX, ↓uExpX, ↓uRetX, ↓uSetX, ↓uTryE, ↓gLtT, ↓iRngD, ↓vSortP, ↓vCat, ↓vCatV, ↓gCat, ↓uSet, ↓uSetR, ↓uIf, ↓wVar, ↓wVarV, ↓wC, ↓w1, ↓w2, ↓wT, asB, ↓wChain, ↓wNil, ↓wCons, ↓wAnd, ↓wOr, ↓wNot, ↓wAndV, ↓wOrV, ↓wNotV, ↓wIf, ↓wCallP, ↓wCallV, ↓wCa, ↓wTup, ↓wLst, ↓oNon, ↓oSom, ↓wSlice, ↓wRev, ↓vP, ↓vSh, ↓vFit, ↓vaNil, ↓vaCons, ↓vLst, ↓vTup, ↓vTup0, ↓vList, ↓vRep, ↓vSlice, ↓cSl, ↓vCallN, ↓v1, ↓vCa, ↓vIx, ↓tP, ↓vAnd, ↓vOr, ↓vNot, ↓vIf, ↓vT, ↓v2, ↓vLc, ↓gI2, ↓gI2c, ↓gLen, ↓gII, ↓gI, ↓gInt1, ↓gRep, ↓gKids, ↓gIn, ↓iLst, ↓TL.iTup, ↓TL.iRng1, ↓TL.iRng2, ↓iEn, ↓iZp, ↓hName, ↓hCons, ↓hNil, ↓hTup, ↓wSl, ↓wIsi, ↓wYes, rho0, iniE, entOf, allSh, List.replicate, List.length_cons, List.length_nil, Nat.reduceAdd, Nat.reduceSub, Nat.reduceLT, Nat.reduceLeDiff, List.cons_append, List.nil_append, List.getElem?_cons_zero, List.getElem?_cons_succ, Option.bind_some, Ent.tr, Ent.own, Ent.put, setE, killA, noAl_ow, noAl_io1, noAl_no, noAl_ro, noAl_al', killJ_cons, killJ_nil0, noRo_ow, noRo_io, noRo_no, noRo_al, mem1, notIn, noRA_ow, noRA_io, noRA_no, noRA_al, Plc, demE, List.foldl_cons, List.foldl_nil, List.map_cons, List.map_nil, List.set_cons_zero, List.set_cons_succ, endsOf, ↓outsOf, Option.map_some, plSet, TL.putAt, T.put, true_and, and_true, lst_set, lst_snoc, lm_set, lm_snoc, shOnly, shE_ow0, shE_ow1, shE_io, shE_no, Option.isSome_some, reduceIte, if_true, if_false, Bool.false_eq_true, Nat.reduceEqDiff]
        exact ⟨rfl, h⟩
    | tup us =>
      have h1 : T.okds us n = true := h1
      have h2 : (decide (us.length ≤ 1000000) && smlTs us) = true := by rw [smlT] at h2; exact h2
      rw [Bool.and_eq_true, decide_eq_true_eq] at h2
      refine ifF nf (ifF nf (ifF nf (ifF nf (ifF nf (ifF nf (ifF nf (ifT rfl (ifF nf (ifF (by simp) ⟨by omega, by omega, fun _ ρ => ∃ x2 x3 x4, ρ = [Ent.ow 0 (T.tup us), Ent.ow 0 (T.tup us), x2, x3, x4], ⟨_, _, _, rfl⟩, fun i t ρ hi hI => ?_, fun ρ hI => ?_⟩)))))))))
      · obtain ⟨x2, x3, x4, rfl⟩ := hI
        obtain ⟨hlt, rfl⟩ := rgT_get.mp hi
        rw [Int.zero_add]
        rw [Int.toNat_natCast] at hlt
        have hu := List.getElem?_eq_getElem hlt
        have hm := List.getElem_mem hlt
        simp -dsimp only [↓uSeq, ↓uNext, ↓uFor, ↓uSt, ↓uStV, ↓uAu, ↓uAp, ↓uApMv, ↓uAuN, ↓uAlias, ↓uDem, ↓uBrk, ↓uCnt, ↓uNev, ↓uRet, ↓uRetN, ↓uExp, ↓uExpP, ↓uRaise1, ↓wCallX, ↓uExpX, ↓uRetX, ↓uSetX, ↓uTryE, ↓gLtT, ↓iRngD, ↓vSortP, ↓vCat, ↓vCatV, ↓gCat, ↓uSet, ↓uSetR, ↓uIf, ↓wVar, ↓wVarV, ↓wC, ↓w1, ↓w2, ↓wT, asB, ↓wChain, ↓wNil, ↓wCons, ↓wAnd, ↓wOr, ↓wNot, ↓wAndV, ↓wOrV, ↓wNotV, ↓wIf, ↓wCallP, ↓wCallV, ↓wCa, ↓wTup, ↓wLst, ↓oNon, ↓oSom, ↓wSlice, ↓wRev, ↓vP, ↓vSh, ↓vFit, ↓vaNil, ↓vaCons, ↓vLst, ↓vTup, ↓vTup0, ↓vList, ↓vRep, ↓vSlice, ↓cSl, ↓vCallN, ↓v1, ↓vCa, ↓vIx, ↓tP, ↓vAnd, ↓vOr, ↓vNot, ↓vIf, ↓vT, ↓v2, ↓vLc, ↓gI2, ↓gI2c, ↓gLen, ↓gII, ↓gI, ↓gInt1, ↓gRep, ↓gKids, ↓gIn, ↓iLst, ↓TL.iTup, ↓TL.iRng1, ↓TL.iRng2, ↓iEn, ↓iZp, ↓hName, ↓hCons, ↓hNil, ↓hTup, ↓wSl, ↓wIsi, ↓wYes, rho0, iniE, entOf, allSh, List.replicate, List.length_cons, List.length_nil, Nat.reduceAdd, Nat.reduceSub, Nat.reduceLT, Nat.reduceLeDiff, List.cons_append, List.nil_append, List.getElem?_cons_zero, List.getElem?_cons_succ, Option.bind_some, Ent.tr, Ent.own, Ent.put, setE, killA, noAl_ow, noAl_io1, noAl_no, noAl_ro, noAl_al', killJ_cons, killJ_nil0, noRo_ow, noRo_io, noRo_no, noRo_al, mem1, notIn, noRA_ow, noRA_io, noRA_no, noRA_al, Plc, demE, List.foldl_cons, List.foldl_nil, List.map_cons, List.map_nil, List.set_cons_zero, List.set_cons_succ, endsOf, ↓outsOf, Option.map_some, plSet, TL.putAt, T.put, true_and, and_true, lst_set, lst_snoc, lm_set, lm_snoc, shOnly, shE_ow0, shE_ow1, shE_io, shE_no, Option.isSome_some, reduceIte, if_true, if_false, Bool.false_eq_true, Nat.reduceEqDiff]
        exact gIx_tup hu (gIx_tup hu ⟨_, rfl, by omega, okds_iff.mp h1 _ hm, smlTs_iff.mp h2.2 _ hm, ifF nf ⟨_, _, _, rfl⟩⟩)
      · obtain ⟨x2, x3, x4, rfl⟩ := hI
        simp -dsimp only [↓uSeq, ↓uNext, ↓uFor, ↓uSt, ↓uStV, ↓uAu, ↓uAp, ↓uApMv, ↓uAuN, ↓uAlias, ↓uDem, ↓uBrk, ↓uCnt, ↓uNev, ↓uRet, ↓uRetN, ↓uExp, ↓uExpP, ↓uRaise1, ↓wCallX, ↓uExpX, ↓uRetX, ↓uSetX, ↓uTryE, ↓gLtT, ↓iRngD, ↓vSortP, ↓vCat, ↓vCatV, ↓gCat, ↓uSet, ↓uSetR, ↓uIf, ↓wVar, ↓wVarV, ↓wC, ↓w1, ↓w2, ↓wT, asB, ↓wChain, ↓wNil, ↓wCons, ↓wAnd, ↓wOr, ↓wNot, ↓wAndV, ↓wOrV, ↓wNotV, ↓wIf, ↓wCallP, ↓wCallV, ↓wCa, ↓wTup, ↓wLst, ↓oNon, ↓oSom, ↓wSlice, ↓wRev, ↓vP, ↓vSh, ↓vFit, ↓vaNil, ↓vaCons, ↓vLst, ↓vTup, ↓vTup0, ↓vList, ↓vRep, ↓vSlice, ↓cSl, ↓vCallN, ↓v1, ↓vCa, ↓vIx, ↓tP, ↓vAnd, ↓vOr, ↓vNot, ↓vIf, ↓vT, ↓v2, ↓vLc, ↓gI2, ↓gI2c, ↓gLen, ↓gII, ↓gI, ↓gInt1, ↓gRep, ↓gKids, ↓gIn, ↓iLst, ↓TL.iTup, ↓TL.iRng1, ↓TL.iRng2, ↓iEn, ↓iZp, ↓hName, ↓hCons, ↓hNil, ↓hTup, ↓wSl, ↓wIsi, ↓wYes, rho0, iniE, entOf, allSh, List.replicate, List.length_cons, List.length_nil, Nat.reduceAdd, Nat.reduceSub, Nat.reduceLT, Nat.reduceLeDiff, List.cons_append, List.nil_append, List.getElem?_cons_zero, List.getElem?_cons_succ, Option.bind_some, Ent.tr, Ent.own, Ent.put, setE, killA, noAl_ow, noAl_io1, noAl_no, noAl_ro, noAl_al', killJ_cons, killJ_nil0, noRo_ow, noRo_io, noRo_no, noRo_al, mem1, notIn, noRA_ow, noRA_io, noRA_no, noRA_al, Plc, demE, List.foldl_cons, List.foldl_nil, List.map_cons, List.map_nil, List.set_cons_zero, List.set_cons_succ, endsOf, ↓outsOf, Option.map_some, plSet, TL.putAt, T.put, true_and, and_true, lst_set, lst_snoc, lm_set, lm_snoc, shOnly, shE_ow0, shE_ow1, shE_io, shE_no, Option.isSome_some, reduceIte, if_true, if_false, Bool.false_eq_true, Nat.reduceEqDiff]
        exact ⟨rfl, h⟩
    | _ => exact absurd (show false = true from h1) nf
theorem callDraw_io {R : Nat → T → List Ent → Prop} {u : KDep R} {a b c m : Int} {x : T} {ρ : List Ent} (h0 : 0 < m) (h1 : m < 9223372036854775808) (h : ∀ v a' c', 0 ≤ v → v < m → R 0 (.int v) (.io 1 (Li [a', b, c']) :: killJ [0] ρ)) :
    callAt [.io 1, .sh] [.sl 0, .tv 0] W__law_draw R u [x, .int m] (.io 1 (Li [a, b, c]) :: ρ) := by
  unfold callAt
  rw [inT_io1]
  refine ⟨a, b, c, m, rfl, h0, h1, fun v a' c' h2 h3 => ?_⟩
  show R 0 (.int v) (putL [(0, Li [a', b, c'])] 0 (.io 1 (Li [a, b, c]) :: killJ [0] ρ))
  rw [putL_0]
  exact h v a' c' h2 h3
theorem callPick_io {R : Nat → T → List Ent → Prop} {u : KDep R} {a b c : Int} {xs : List T} {x : T} {ρ : List Ent} (h0 : 0 < xs.length) (h1 : xs.length ≤ 1000) (h : ∀ v ∈ xs, ∀ a' c', R 0 v (.io 1 (Li [a', b, c']) :: killJ [0] ρ)) :
    callAt [.io 1, .sh] [.sl 0, .tv 0] W__law_pick R u [x, .lst xs] (.io 1 (Li [a, b, c]) :: ρ) := by
  unfold callAt
  rw [inT_io1]
  refine ⟨a, b, c, xs, rfl, h0, h1, fun v hv a' c' => ?_⟩
  show R 0 v (putL [(0, Li [a', b, c'])] 0 (.io 1 (Li [a, b, c]) :: killJ [0] ρ))
  rw [putL_0]
  exact h v hv a' c'
end
end K89
set_option Elab.async false
set_option linter.all false
set_option maxRecDepth 100000
namespace K89
open PySem PySem.Spec PyProof.Rows L2 L2H TL
section
variable {P : Program} {w : World} {K : PySem.W.Frag} {mg : Str → Option Value} {base : Heap}
theorem seq_isE {X : Cx} (hK : X.K = K) {i : Nat} {cv : Value} {u1 u2 : TEnds → List Ent → Prop} {De : TEnds} {ρ : List Ent} {a C dd : Addr} {fs : List (Str × V)} {b : Bool} (h : (ρ[i]?.bind Ent.tr) = some (.exc a C dd fs)) (hp : PinAt X a C dd) (hc : ExcC K C)
    (hk : PySem.W.kitOne K (.ref C) cv = some b) (hR : if b = true then u1 { De with nx := u2 De } ρ else u2 De ρ) : uSeq (uIf (tP (wT (wIsE X i cv))) u1 uNext) u2 De ρ := by
  subst hK
  refine ⟨a, C, dd, fs, b, h, hp, hc, hk, ?_⟩
  cases b with
  | true => exact hR
  | false => exact hR
theorem seq_notE {X : Cx} (hK : X.K = K) {i : Nat} {cv : Value} {u1 u2 : TEnds → List Ent → Prop} {De : TEnds} {ρ : List Ent} {a C dd : Addr} {fs : List (Str × V)} (h : (ρ[i]?.bind Ent.tr) = some (.exc a C dd fs)) (hp : PinAt X a C dd) (hc : ExcC K C)
    (hk : PySem.W.kitOne K (.ref C) cv = some true) (hR : u2 De ρ) : uSeq (uIf (tP (wNot (wT (wIsE X i cv)))) u1 uNext) u2 De ρ := by
  subst hK
  exact ⟨a, C, dd, fs, true, h, hp, hc, hk, hR⟩
/-- told.append((name, e.f)) -/
theorem app_fldE {X : Cx} (hK : X.K = K) {f nm : Str} {De : TEnds} {a C dd : Addr} {fs : List (Str × V)} {t : T} (hp : PinAt X a C dd) (xf : XfC K C) (no : PySem.W.findIn K (.ref C) f = some none) (hl : fs.lookup f = some t.v1) (h1 : t.is1 = true)
    (h : De.nx [.ow 0 (.exc a C dd fs), .ow 1 (.lst [.tup [.str nm, t]])]) : uAp 1 (vSh (wTup (wCons (wC (.str nm)) (wCons (wFldE X 0 f) wNil)))) De [.ow 0 (.exc a C dd fs), .ow 1 (.lst [])] := by
  subst hK
  refine ⟨rfl, a, C, dd, fs, t.v1, rfl, hp, xf, no, hl, flat1_v1 h1, ?_⟩
  rw [T.of_v1 h1]
  exact ⟨(by decide : 2 ≤ 1000), .inl (Nat.zero_le _), (by decide : 0 < 1000000), h⟩
def W__law_error (G : Gs K mg) : FnW := fun x R => ∃ t : T, x = ⟨G.x_BadNumber.C, [("field", t.v1)]⟩ ∧ t.is1 = true ∧ R 2 (.tup [.str "refused", .lst [.tup [.str "BadNumber", t]]])
theorem ok__law_error {k : Nat} (G : Gs K mg) : FnE P w K mg base (k + 1) G.g__law_error.f G.g__law_error.d ["e"] (spE K (W__law_error G)) := by
  refine fnTE (k := k + 0) G.g__law_error.F sc__law_error (fun X p cdv A outer s H E hX hr => ?_)
  subst hX
  refine ⟨_, (ts_cons (ts_set 1 sc__law_error.nd rfl (.inl rfl) (tv_lst 0 tva_nil (by simp) (by decide)))
      (ts_cons (ts_if (tvt_p (tpt_val (tp_isE (v := .ref G.a_BadNumber) (cv := .ref G.a_BadNumber) 0 (fun _ r => r) (by rfl) G.z_isinstance (by rfl) (by first | exact Or.inl rfl | exact Or.inr (Or.inl rfl) | exact Or.inr (Or.inr rfl)) (pe_glob (v := .ref G.a_BadNumber) (by rfl) G.ga_BadNumber rfl)))) (ts_one (ts_app 1 (tv_sh (tp_tup (tpa_cons tp_str (tpa_cons (tp_fldE 0 (by rfl) (by first | exact Or.inl rfl | exact Or.inr (Or.inl rfl) | exact Or.inr (Or.inr rfl))) tpa_nil)))))) ts_nil)
      (ts_cons (ts_if (tvt_p (tpt_val (tp_isE (v := .ref G.a_BadDay) (cv := .ref G.a_BadDay) 0 (fun _ r => r) (by rfl) G.z_isinstance (by rfl) (by first | exact Or.inl rfl | exact Or.inr (Or.inl rfl) | exact Or.inr (Or.inr rfl)) (pe_glob (v := .ref G.a_BadDay) (by rfl) G.ga_BadDay rfl)))) (ts_one (ts_app 1 (tv_sh (tp_tup (tpa_cons tp_str (tpa_cons (tp_fldE 0 (by rfl) (by first | exact Or.inl rfl | exact Or.inr (Or.inl rfl) | exact Or.inr (Or.inr rfl))) tpa_nil)))))) ts_nil)
      (ts_cons (ts_if (tvt_p (tpt_val (tp_isE (v := .ref G.a_NoName) (cv := .ref G.a_NoName) 0 (fun _ r => r) (by rfl) G.z_isinstance (by rfl) (by first | exact Or.inl rfl | exact Or.inr (Or.inl rfl) | exact Or.inr (Or.inr rfl)) (pe_glob (v := .ref G.a_NoName) (by rfl) G.ga_NoName rfl)))) (ts_one (ts_app 1 (tv_sh (tp_tup (tpa_cons tp_str (tpa_cons (tp_fldE 0 (by rfl) (by first | exact Or.inl rfl | exact Or.inr (Or.inl rfl) | exact Or.inr (Or.inr rfl))) tpa_nil)))))) ts_nil)
      (ts_cons (ts_if (tvt_p (tpt_val (tp_isE (v := .ref G.a_Clash) (cv := .ref G.a_Clash) 0 (fun _ r => r) (by rfl) G.z_isinstance (by rfl) (by first | exact Or.inl rfl | exact Or.inr (Or.inl rfl) | exact Or.inr (Or.inr rfl)) (pe_glob (v := .ref G.a_Clash) (by rfl) G.ga_Clash rfl)))) (ts_one (ts_app 1 (tv_sh (tp_tup (tpa_cons tp_str (tpa_cons (tp_fldE 0 (by rfl) (by first | exact Or.inl rfl | exact Or.inr (Or.inl rfl) | exact Or.inr (Or.inr rfl))) (tpa_cons (tp_fldE 0 (by rfl) (by first | exact Or.inl rfl | exact Or.inr (Or.inl rfl) | exact Or.inr (Or.inr rfl))) tpa_nil))))))) ts_nil)
      (ts_cons (ts_if (tvt_p (tpt_val (tp_isE (v := .ref G.a_Full) (cv := .ref G.a_Full) 0 (fun _ r => r) (by rfl) G.z_isinstance (by rfl) (by first | exact Or.inl rfl | exact Or.inr (Or.inl rfl) | exact Or.inr (Or.inr rfl)) (pe_glob (v := .ref G.a_Full) (by rfl) G.ga_Full rfl)))) (ts_one (ts_app 1 (tv_sh (tp_tup (tpa_cons tp_str (tpa_cons (tp_fldE 0 (by rfl) (by first | exact Or.inl rfl | exact Or.inr (Or.inl rfl) | exact Or.inr (Or.inr rfl))) tpa_nil)))))) ts_nil)
      (ts_cons (ts_if (tvt_p (tpt_val (tp_isE (v := .ref G.a_Refused) (cv := .ref G.a_Refused) 0 (fun _ r => r) (by rfl) G.z_isinstance (by rfl) (by first | exact Or.inl rfl | exact Or.inr (Or.inl rfl) | exact Or.inr (Or.inr rfl)) (pe_glob (v := .ref G.a_Refused) (by rfl) G.ga_Refused rfl)))) (ts_one (ts_app 1 (tv_sh (tp_tup (tpa_cons tp_str (tpa_cons (tp_fldE 0 (by rfl) (by first | exact Or.inl rfl | exact Or.inr (Or.inl rfl) | exact Or.inr (Or.inr rfl))) (tpa_cons (tp_fldE 0 (by rfl) (by first | exact Or.inl rfl | exact Or.inr (Or.inl rfl) | exact Or.inr (Or.inr rfl))) tpa_nil))))))) ts_nil)
      (ts_cons (ts_if (tvt_p (tpt_val (tp_isE (v := .ref G.a_TooFar) (cv := .ref G.a_TooFar) 0 (fun _ r => r) (by rfl) G.z_isinstance (by rfl) (by first | exact Or.inl rfl | exact Or.inr (Or.inl rfl) | exact Or.inr (Or.inr rfl)) (pe_glob (v := .ref G.a_TooFar) (by rfl) G.ga_TooFar rfl)))) (ts_one (ts_app 1 (tv_sh (tp_tup (tpa_cons tp_str (tpa_cons (tp_fldE 0 (by rfl) (by first | exact Or.inl rfl | exact Or.inr (Or.inl rfl) | exact Or.inr (Or.inr rfl))) tpa_nil)))))) ts_nil)
      (ts_cons (ts_if (tvt_p (tpt_val (tp_isE (v := .ref G.a_TooLarge) (cv := .ref G.a_TooLarge) 0 (fun _ r => r) (by rfl) G.z_isinstance (by rfl) (by first | exact Or.inl rfl | exact Or.inr (Or.inl rfl) | exact Or.inr (Or.inr rfl)) (pe_glob (v := .ref G.a_TooLarge) (by rfl) G.ga_TooLarge rfl)))) (ts_one (ts_app 1 (tv_sh (tp_tup (tpa_cons tp_str (tpa_cons (tp_fldE 0 (by rfl) (by first | exact Or.inl rfl | exact Or.inr (Or.inl rfl) | exact Or.inr (Or.inr rfl))) tpa_nil)))))) ts_nil)
      (ts_cons (ts_if (tvt_p (tpt_val (tp_isE (v := .ref G.a_TooMuch) (cv := .ref G.a_TooMuch) 0 (fun _ r => r) (by rfl) G.z_isinstance (by rfl) (by first | exact Or.inl rfl | exact Or.inr (Or.inl rfl) | exact Or.inr (Or.inr rfl)) (pe_glob (v := .ref G.a_TooMuch) (by rfl) G.ga_TooMuch rfl)))) (ts_one (ts_app 1 (tv_sh (tp_tup (tpa_cons tp_str (tpa_cons (tp_fldE 0 (by rfl) (by first | exact Or.inl rfl | exact Or.inr (Or.inl rfl) | exact Or.inr (Or.inr rfl))) tpa_nil)))))) ts_nil)
      (ts_cons (ts_if (tvt_p (tpt_val (tp_isE (v := .ref G.a_BadLine) (cv := .ref G.a_BadLine) 0 (fun _ r => r) (by rfl) G.z_isinstance (by rfl) (by first | exact Or.inl rfl | exact Or.inr (Or.inl rfl) | exact Or.inr (Or.inr rfl)) (pe_glob (v := .ref G.a_BadLine) (by rfl) G.ga_BadLine rfl)))) (ts_one (ts_app 1 (tv_sh (tp_tup (tpa_cons tp_str (tpa_cons (tp_fldE 0 (by rfl) (by first | exact Or.inl rfl | exact Or.inr (Or.inl rfl) | exact Or.inr (Or.inr rfl))) (tpa_cons (tp_fldE 0 (by rfl) (by first | exact Or.inl rfl | exact Or.inr (Or.inl rfl) | exact Or.inr (Or.inr rfl))) tpa_nil))))))) ts_nil)
      (ts_cons (ts_if (tvt_p (tpt_val (tp_isE (v := .ref G.a_NoUndo) (cv := .ref G.a_NoUndo) 0 (fun _ r => r) (by rfl) G.z_isinstance (by rfl) (by first | exact Or.inl rfl | exact Or.inr (Or.inl rfl) | exact Or.inr (Or.inr rfl)) (pe_glob (v := .ref G.a_NoUndo) (by rfl) G.ga_NoUndo rfl)))) (ts_one (ts_app 1 (tv_sh (tp_tup (tpa_cons tp_str tpa_nil))))) ts_nil)
      (ts_cons (ts_if (tvt_p (tpt_not (tpt_val (tp_isE (v := .ty "ValueError") (cv := .type "ValueError") 0 (fun _ r => r) (by rfl) G.z_isinstance (by rfl) (by first | exact Or.inl rfl | exact Or.inr (Or.inl rfl) | exact Or.inr (Or.inr rfl)) (pe_bltn (v := .ty "ValueError") (by rfl) G.z_ValueError (by decide +kernel) rfl))))) (ts_one (ts_app 1 (tv_sh (tp_tup (tpa_cons tp_str tpa_nil))))) ts_nil)
      (ts_one (ts_ret (tv_tup 1 (tva_cons 1 (tv_p tp_str) (tva_cons 1 (tv_var 1) tva_nil)) (by simp) (by decide))))))))))))))))), fun x dd R hp hW => ?_⟩

  obtain ⟨t, rfl, h1, h⟩ := hW
  have lk : List.lookup ("field" : Str) [(("field" : Str), t.v1)] = some t.v1 := by simp [List.lookup]
  have no := G.x_BadNumber.no
  have xf := G.xf_BadNumber
  have ex := G.ex_BadNumber
  obtain ⟨X, hX⟩ : ∃ X, X = (cxH CX0 P w K mg base ["e", "told"] "_law_error" (defScope s__law_error) G.g__law_error.f cdv A outer s H E p).nox := ⟨_, rfl⟩
  have hK : X.K = K := by rw [hX]; rfl
  rw [← hX] at hp ⊢
  clear hX hr
  refine ⟨(by decide : 1 < 2), ?_⟩
  show uSeq _ _ _ [Ent.ow 0 (.exc p.1 G.x_BadNumber.C dd [("field", t.v1)]), Ent.ow 1 (.lst [])]
  refine seq_isE hK (fs := [("field", t.v1)]) rfl hp ex G.k_BadNumber_BadNumber (ifT rfl ?_)
  refine app_fldE hK hp xf no lk h1 ?_
  refine seq_isE hK (fs := [("field", t.v1)]) rfl hp ex G.k_BadNumber_BadDay (ifF Bool.false_ne_true ?_)
  refine seq_isE hK (fs := [("field", t.v1)]) rfl hp ex G.k_BadNumber_NoName (ifF Bool.false_ne_true ?_)
  refine seq_isE hK (fs := [("field", t.v1)]) rfl hp ex G.k_BadNumber_Clash (ifF Bool.false_ne_true ?_)
  refine seq_isE hK (fs := [("field", t.v1)]) rfl hp ex G.k_BadNumber_Full (ifF Bool.false_ne_true ?_)
  refine seq_isE hK (fs := [("field", t.v1)]) rfl hp ex G.k_BadNumber_Refused (ifF Bool.false_ne_true ?_)
  refine seq_isE hK (fs := [("field", t.v1)]) rfl hp ex G.k_BadNumber_TooFar (ifF Bool.false_ne_true ?_)
  refine seq_isE hK (fs := [("field", t.v1)]) rfl hp ex G.k_BadNumber_TooLarge (ifF Bool.false_ne_true ?_)
  refine seq_isE hK (fs := [("field", t.v1)]) rfl hp ex G.k_BadNumber_TooMuch (ifF Bool.false_ne_true ?_)
  refine seq_isE hK (fs := [("field", t.v1)]) rfl hp ex G.k_BadNumber_BadLine (ifF Bool.false_ne_true ?_)
  refine seq_isE hK (fs := [("field", t.v1)]) rfl hp ex G.k_BadNumber_NoUndo (ifF Bool.false_ne_true ?_)
  refine seq_notE hK (fs := [("field", t.v1)]) rfl hp ex G.k_BadNumber_VE ?_
  exact ⟨rfl, .inr rfl, .inl (Nat.le_refl _), h⟩
end
end K89
set_option Elab.async false
set_option linter.all false
set_option maxRecDepth 100000
namespace K89
open PySem PySem.Spec PyProof.Rows L2 L2H TL
abbrev K3 := Int × Int × Int
def tr3 (x : K3) : T := .tup [.int x.1, .int x.2.1, .int x.2.2]
abbrev Lk (ks : List K3) : T := .lst (ks.map tr3)
theorem mapk_get {xs : List K3} {i : Nat} {t : T} : (xs.map tr3)[i]? = some t ↔ ∃ x, xs[i]? = some x ∧ t = tr3 x := by
  rw [List.getElem?_map]
  cases xs[i]? with
  | none => simp
  | some x => simp [eq_comm]
theorem g30 {x : K3} {R : T → Prop} : gIx (tr3 x) (.int 0) R = R (.int x.1) := rfl
theorem g31 {x : K3} {R : T → Prop} : gIx (tr3 x) (.int 1) R = R (.int x.2.1) := rfl
theorem g32 {x : K3} {R : T → Prop} : gIx (tr3 x) (.int 2) R = R (.int x.2.2) := rfl
theorem zip_get {α β : Type} {l : List α} {m : List β} {i : Nat} {a : α} {b : β} (h : l[i]? = some a) (g : m[i]? = some b) : (l.zip m)[i]? = some (a, b) := List.getElem?_zip_eq_some.mpr ⟨h, g⟩
theorem filt_t {α : Type} {p : α → Bool} {l : List α} {i : Nat} {x : α} (h : l[i]? = some x) (hp : p x = true) : (l.take (i + 1)).filter p = (l.take i).filter p ++ [x] := by
  rw [← take_snoc h, List.filter_append, List.filter_cons_of_pos hp]; rfl
theorem filt_f {α : Type} {p : α → Bool} {l : List α} {i : Nat} {x : α} (h : l[i]? = some x) (hp : ¬ p x = true) : (l.take (i + 1)).filter p = (l.take i).filter p := by
  rw [← take_snoc h, List.filter_append, List.filter_cons_of_neg hp, List.filter_nil, List.append_nil]
def gk1 (n : Nat) (x : K3) : Prop := (0 ≤ x.1 ∧ x.1 < n) ∧ (0 ≤ x.2.1 ∧ x.2.1 ≤ 1000) ∧ 0 ≤ x.2.2 ∧ x.2.2 ≤ 2000
def goodK (n : Nat) (ks : List K3) : Prop := ks.length ≤ 20 ∧ ∀ x ∈ ks, gk1 n x
section
variable {P : Program} {w : World} {K : PySem.W.Frag} {mg : Str → Option Value} {base : Heap}
def badK (G : Gs K mg) : XT := ⟨G.x_BadNumber.C, [("field", .str "kinds")]⟩
def W_check_kinds (G : Gs K mg) : FnX := fun ts R Xr => ∃ (lacks : List Int) (kinds : List K3), ts = [Li lacks, Lk kinds] ∧ (goodK lacks.length kinds → R 0 .non) ∧ (¬ goodK lacks.length kinds → Xr (badK G))
theorem ok_check_kinds {k : Nat} (G : Gs K mg) : FnOk P w K mg base (L2N.CX P w) (k + 3) G.g_check_kinds.f G.g_check_kinds.d ["lacks", "kinds"] (spTX K 2 (W_check_kinds G)) := by
  refine fnTX (k := k + 2) G.g_check_kinds.F sc_check_kinds rfl (fun X cdv A outer s H E hX hr => ?_)
  subst hX
  refine ⟨_, (ts_cons (ts_if (tvt_p (tpt_cmp op_gt opT_bl (tp_callB call_len_seq caT_len (by rfl) G.z_len PySem.boot_len (tpa_cons (tp_var 1) tpa_nil)) (tp_globI (by rfl) G.c_kinds) (nomark _))) (ts_one (ts_raise1 (C0 := G.x_BadNumber.C) rfl (L2N.takes_of rfl rfl rfl rfl) G.x_BadNumber rfl (ok_iBadNumber (k := k + 0) G) hr (by rfl) tp_str)) ts_nil)
      (ts_one (ts_for (L2.passes_of rfl) rfl (ti_lst (tv_var 1)) (tg_tup rfl (tgs_cons (tg_name 2 sc_check_kinds.nd rfl (.inl rfl)) (tgs_cons (tg_name 3 sc_check_kinds.nd rfl (.inl rfl)) (tgs_cons (tg_name 4 sc_check_kinds.nd rfl (.inl rfl)) tgs_nil))) h3_len) (ts_cons (ts_if (tvt_p (tpt_not (tpt_chain op_le op_lt opT_bl opT_bl tp_int (tp_var 2) (tp_callB call_len_seq caT_len (by rfl) G.z_len PySem.boot_len (tpa_cons (tp_var 0) tpa_nil))))) (ts_one (ts_raise1 (C0 := G.x_BadNumber.C) rfl (L2N.takes_of rfl rfl rfl rfl) G.x_BadNumber rfl (ok_iBadNumber (k := k + 0) G) hr (by rfl) tp_str)) ts_nil)
      (ts_one (ts_if (tvt_p (TPW.pt (tpw_or (tpt_not (tpt_chain op_le op_le opT_bl opT_bl tp_int (tp_var 3) (tp_globI (by rfl) G.c_price))) (tpw_or1 (tpt_not (tpt_chain op_le op_le opT_bl opT_bl tp_int (tp_var 4) (tp_globI (by rfl) G.c_supply))))))) (ts_one (ts_raise1 (C0 := G.x_BadNumber.C) rfl (L2N.takes_of rfl rfl rfl rfl) G.x_BadNumber rfl (ok_iBadNumber (k := k + 0) G) hr (by rfl) tp_str)) ts_nil)))))), fun ts R Xr hW hlen => ?_⟩

  obtain ⟨lacks, kinds, rfl, h1, h2⟩ := hW
  simp -dsimp only [List.length_map, ↓uSeq, ↓uNext, ↓uFor, ↓uSt, ↓uStV, ↓uAu, ↓uAp, ↓uApMv, ↓uAuN, ↓uAlias, ↓uDem, ↓uBrk, ↓uCnt, ↓uNev, ↓uRet, ↓uRetN, ↓uExp, ↓uExpP, ↓uRaise1, ↓wCallX, ↓uExpX, ↓uRetX, ↓uSetX, ↓uTryE, ↓gLtT, ↓iRngD, ↓vSortP, ↓vCat, ↓vCatV, ↓gCat, ↓uSet, ↓uSetR, ↓uIf, ↓wVar, ↓wVarV, ↓wC, ↓w1, ↓w2, ↓wT, asB, ↓wChain, ↓wNil, ↓wCons, ↓wAnd, ↓wOr, ↓wNot, ↓wAndV, ↓wOrV, ↓wNotV, ↓wIf, ↓wCallP, ↓wCallV, ↓wCa, ↓wTup, ↓wLst, ↓oNon, ↓oSom, ↓wSlice, ↓wRev, ↓vP, ↓vSh, ↓vFit, ↓vaNil, ↓vaCons, ↓vLst, ↓vTup, ↓vTup0, ↓vList, ↓vRep, ↓vSlice, ↓cSl, ↓vCallN, ↓v1, ↓vCa, ↓vIx, ↓tP, ↓vAnd, ↓vOr, ↓vNot, ↓vIf, ↓vT, ↓v2, ↓vLc, ↓gI2, ↓gI2c, ↓gLen, ↓gII, ↓gI, ↓gInt1, ↓gRep, ↓gKids, ↓gIn, ↓iLst, ↓TL.iTup, ↓TL.iRng1, ↓TL.iRng2, ↓iEn, ↓iZp, ↓hName, ↓hCons, ↓hNil, ↓hTup, ↓wSl, ↓wIsi, ↓wYes, rho0, iniE, entOf, allSh, List.replicate, List.length_cons, List.length_nil, Nat.reduceAdd, Nat.reduceSub, Nat.reduceLT, Nat.reduceLeDiff, List.cons_append, List.nil_append, List.getElem?_cons_zero, List.getElem?_cons_succ, Option.bind_some, Ent.tr, Ent.own, Ent.put, setE, killA, noAl_ow, noAl_io1, noAl_no, noAl_ro, noAl_al', killJ_cons, killJ_nil0, noRo_ow, noRo_io, noRo_no, noRo_al, mem1, notIn, noRA_ow, noRA_io, noRA_no, noRA_al, Plc, demE, List.foldl_cons, List.foldl_nil, List.map_cons, List.map_nil, List.set_cons_zero, List.set_cons_succ, endsOf, ↓outsOf, Option.map_some, plSet, TL.putAt, T.put, true_and, and_true, lst_set, lst_snoc, lm_set, lm_snoc, shOnly, shE_ow0, shE_ow1, shE_io, shE_no, Option.isSome_some, reduceIte, if_true, if_false, Bool.false_eq_true, Nat.reduceEqDiff]
  refine ifS (fun q => ⟨rfl, h2 fun z => ?_⟩) fun q => ?_
  · have := of_decide_eq_true q
    have := z.1
    omega
  have q : kinds.length ≤ 20 := by
    have : ¬ ((20 : Int) < kinds.length) := fun z => q (decide_eq_true z)
    omega
  refine ⟨fun i ρ => ∃ x2 x3 x4, ρ = [Ent.ow 0 (Li lacks), Ent.ow 0 (Lk kinds), x2, x3, x4] ∧ ∀ x ∈ kinds.take i, gk1 lacks.length x, ⟨_, _, _, rfl, by simp⟩, fun i t ρ hi hI => ?_, fun ρ hI => ?_⟩
  · obtain ⟨x2, x3, x4, rfl, hg⟩ := hI
    obtain ⟨x, hx, rfl⟩ := mapk_get.mp hi
    have hm := List.mem_of_getElem? hx
    show hTup _ (.tup [.int x.1, .int x.2.1, .int x.2.2]) _ _
    simp -dsimp only [List.length_map, ↓uSeq, ↓uNext, ↓uFor, ↓uSt, ↓uStV, ↓uAu, ↓uAp, ↓uApMv, ↓uAuN, ↓uAlias, ↓uDem, ↓uBrk, ↓uCnt, ↓uNev, ↓uRet, ↓uRetN, ↓uExp, ↓uExpP, ↓uRaise1, ↓wCallX, ↓uExpX, ↓uRetX, ↓uSetX, ↓uTryE, ↓gLtT, ↓iRngD, ↓vSortP, ↓vCat, ↓vCatV, ↓gCat, ↓uSet, ↓uSetR, ↓uIf, ↓wVar, ↓wVarV, ↓wC, ↓w1, ↓w2, ↓wT, asB, ↓wChain, ↓wNil, ↓wCons, ↓wAnd, ↓wOr, ↓wNot, ↓wAndV, ↓wOrV, ↓wNotV, ↓wIf, ↓wCallP, ↓wCallV, ↓wCa, ↓wTup, ↓wLst, ↓oNon, ↓oSom, ↓wSlice, ↓wRev, ↓vP, ↓vSh, ↓vFit, ↓vaNil, ↓vaCons, ↓vLst, ↓vTup, ↓vTup0, ↓vList, ↓vRep, ↓vSlice, ↓cSl, ↓vCallN, ↓v1, ↓vCa, ↓vIx, ↓tP, ↓vAnd, ↓vOr, ↓vNot, ↓vIf, ↓vT, ↓v2, ↓vLc, ↓gI2, ↓gI2c, ↓gLen, ↓gII, ↓gI, ↓gInt1, ↓gRep, ↓gKids, ↓gIn, ↓iLst, ↓TL.iTup, ↓TL.iRng1, ↓TL.iRng2, ↓iEn, ↓iZp, ↓hName, ↓hCons, ↓hNil, ↓hTup, ↓wSl, ↓wIsi, ↓wYes, rho0, iniE, entOf, allSh, List.replicate, List.length_cons, List.length_nil, Nat.reduceAdd, Nat.reduceSub, Nat.reduceLT, Nat.reduceLeDiff, List.cons_append, List.nil_append, List.getElem?_cons_zero, List.getElem?_cons_succ, Option.bind_some, Ent.tr, Ent.own, Ent.put, setE, killA, noAl_ow, noAl_io1, noAl_no, noAl_ro, noAl_al', killJ_cons, killJ_nil0, noRo_ow, noRo_io, noRo_no, noRo_al, mem1, notIn, noRA_ow, noRA_io, noRA_no, noRA_al, Plc, demE, List.foldl_cons, List.foldl_nil, List.map_cons, List.map_nil, List.set_cons_zero, List.set_cons_succ, endsOf, ↓outsOf, Option.map_some, plSet, TL.putAt, T.put, true_and, and_true, lst_set, lst_snoc, lm_set, lm_snoc, shOnly, shE_ow0, shE_ow1, shE_io, shE_no, Option.isSome_some, reduceIte, if_true, if_false, Bool.false_eq_true, Nat.reduceEqDiff]
    have bad : ¬ ((0 ≤ x.1 ∧ x.1 < lacks.length) ∧ (0 ≤ x.2.1 ∧ x.2.1 ≤ 1000) ∧ 0 ≤ x.2.2 ∧ x.2.2 ≤ 2000) → (T.str "kinds").is1 = true ∧ Xr ⟨G.x_BadNumber.C, [("field", (T.str "kinds").v1)]⟩ := fun z => ⟨rfl, h2 fun g => z (g.2 x hm)⟩
    have ok : ((0 ≤ x.1 ∧ x.1 < lacks.length) ∧ (0 ≤ x.2.1 ∧ x.2.1 ≤ 1000) ∧ 0 ≤ x.2.2 ∧ x.2.2 ≤ 2000) → ∃ x2 x3 x4, [Ent.ow 0 (Li lacks), Ent.ow 0 (Lk kinds), Ent.ow 0 (T.int x.1), Ent.ow 0 (T.int x.2.1), Ent.ow 0 (T.int x.2.2)] = [Ent.ow 0 (Li lacks), Ent.ow 0 (Lk kinds), x2, x3, x4] ∧ ∀ y ∈ List.take (i + 1) kinds, gk1 lacks.length y := fun z => ⟨_, _, _, rfl, fun y hy => by
      rw [← take_snoc hx] at hy
      rcases List.mem_append.mp hy with hy | hy
      · exact hg y hy
      · rw [List.mem_singleton.mp hy]; exact z⟩
    repeat' split
    all_goals (first
      | (refine bad fun z => ?_; simp_all; done)
      | (refine bad fun z => ?_; simp_all; omega)
      | (refine ok ?_; simp_all; done)
      | (refine ok ?_; simp_all; omega))
  · obtain ⟨x2, x3, x4, rfl, hg⟩ := hI
    rw [List.length_map, take_len] at hg
    simp -dsimp only [↓uSeq, ↓uNext, ↓uFor, ↓uSt, ↓uStV, ↓uAu, ↓uAp, ↓uApMv, ↓uAuN, ↓uAlias, ↓uDem, ↓uBrk, ↓uCnt, ↓uNev, ↓uRet, ↓uRetN, ↓uExp, ↓uExpP, ↓uRaise1, ↓wCallX, ↓uExpX, ↓uRetX, ↓uSetX, ↓uTryE, ↓gLtT, ↓iRngD, ↓vSortP, ↓vCat, ↓vCatV, ↓gCat, ↓uSet, ↓uSetR, ↓uIf, ↓wVar, ↓wVarV, ↓wC, ↓w1, ↓w2, ↓wT, asB, ↓wChain, ↓wNil, ↓wCons, ↓wAnd, ↓wOr, ↓wNot, ↓wAndV, ↓wOrV, ↓wNotV, ↓wIf, ↓wCallP, ↓wCallV, ↓wCa, ↓wTup, ↓wLst, ↓oNon, ↓oSom, ↓wSlice, ↓wRev, ↓vP, ↓vSh, ↓vFit, ↓vaNil, ↓vaCons, ↓vLst, ↓vTup, ↓vTup0, ↓vList, ↓vRep, ↓vSlice, ↓cSl, ↓vCallN, ↓v1, ↓vCa, ↓vIx, ↓tP, ↓vAnd, ↓vOr, ↓vNot, ↓vIf, ↓vT, ↓v2, ↓vLc, ↓gI2, ↓gI2c, ↓gLen, ↓gII, ↓gI, ↓gInt1, ↓gRep, ↓gKids, ↓gIn, ↓iLst, ↓TL.iTup, ↓TL.iRng1, ↓TL.iRng2, ↓iEn, ↓iZp, ↓hName, ↓hCons, ↓hNil, ↓hTup, ↓wSl, ↓wIsi, ↓wYes, rho0, iniE, entOf, allSh, List.replicate, List.length_cons, List.length_nil, Nat.reduceAdd, Nat.reduceSub, Nat.reduceLT, Nat.reduceLeDiff, List.cons_append, List.nil_append, List.getElem?_cons_zero, List.getElem?_cons_succ, Option.bind_some, Ent.tr, Ent.own, Ent.put, setE, killA, noAl_ow, noAl_io1, noAl_no, noAl_ro, noAl_al', killJ_cons, killJ_nil0, noRo_ow, noRo_io, noRo_no, noRo_al, mem1, notIn, noRA_ow, noRA_io, noRA_no, noRA_al, Plc, demE, List.foldl_cons, List.foldl_nil, List.map_cons, List.map_nil, List.set_cons_zero, List.set_cons_succ, endsOf, ↓outsOf, Option.map_some, plSet, TL.putAt, T.put, true_and, and_true, lst_set, lst_snoc, lm_set, lm_snoc, shOnly, shE_ow0, shE_ow1, shE_io, shE_no, Option.isSome_some, reduceIte, if_true, if_false, Bool.false_eq_true, Nat.reduceEqDiff]
    exact h1 ⟨q, hg⟩
def pcs (kinds : List K3) (am : List Int) (k : Int) : Int := (((kinds.zip am).filter fun x => decide (x.1.1 ≤ k)).map (·.2)).sum
def W_pieces_up_to : FnT := fun ts R => ∃ (kinds : List K3) (am : List Int) (k : Int), ts = [Lk kinds, Li am, .int k] ∧ kinds.length ≤ 1000 ∧ am.length = kinds.length ∧ R 0 (.int (pcs kinds am k)) []
theorem ok_pieces_up_to {k : Nat} (G : Gs K mg) : FnOk P w K mg base CX0 (k + 1) G.g_pieces_up_to.f G.g_pieces_up_to.d ["kinds", "amounts", "k"] (spT K (allSh 3) W_pieces_up_to) := by
  refine fnT (k := k + 0) G.g_pieces_up_to.F sc_pieces_up_to rfl (fun X cdv A outer s H E hX hr => ?_)
  subst hX
  refine ⟨_, (ts_one (ts_ret (tv_callB (cr_sum rfl) caT_sum (by rfl) G.z_sum (by decide +kernel) (tva_cons 0 (tv_lc (own := [("kind", 3), ("amount", 4)]) 0 [3, 4] rfl sc_pieces_up_to.nd (ti_zip (by rfl) G.z_zip (tva_cons 0 (tv_var 0) (tva_cons 0 (tv_var 1) tva_nil))) (blkOk_by (N := ["kinds", "amounts", "k", "kind", "amount"]) (sc := defScope s_pieces_up_to) (by decide +kernel)) (fun _ _ _ _ _ => (tg_tup rfl (tgs_cons (tg_name 3 sc_pieces_up_to.nd rfl (.inl rfl)) (tgs_cons (tg_name 4 sc_pieces_up_to.nd rfl (.inl rfl)) tgs_nil)) h2_len)) (fun _ _ _ _ _ => (tvts_one (tvt_p (tpt_cmp op_le opT_bl (tp_ix (tp_var 3) tp_int (fun _ _ => rfl)) (tp_var 2) (nomark _))))) (fun _ _ _ _ _ => (tv_p (tp_var 4))) (by decide)) tva_nil)))), fun ts R hW hlen => ?_⟩

  obtain ⟨kinds, am, k0, rfl, h0, hl, h⟩ := hW
  simp -dsimp only [↓uSeq, ↓uNext, ↓uFor, ↓uSt, ↓uStV, ↓uAu, ↓uAp, ↓uApMv, ↓uAuN, ↓uAlias, ↓uDem, ↓uBrk, ↓uCnt, ↓uNev, ↓uRet, ↓uRetN, ↓uExp, ↓uExpP, ↓uRaise1, ↓wCallX, ↓uExpX, ↓uRetX, ↓uSetX, ↓uTryE, ↓gLtT, ↓iRngD, ↓vSortP, ↓vCat, ↓vCatV, ↓gCat, ↓uSet, ↓uSetR, ↓uIf, ↓wVar, ↓wVarV, ↓wC, ↓w1, ↓w2, ↓wT, asB, ↓wChain, ↓wNil, ↓wCons, ↓wAnd, ↓wOr, ↓wNot, ↓wAndV, ↓wOrV, ↓wNotV, ↓wIf, ↓wCallP, ↓wCallV, ↓wCa, ↓wTup, ↓wLst, ↓oNon, ↓oSom, ↓wSlice, ↓wRev, ↓vP, ↓vSh, ↓vFit, ↓vaNil, ↓vaCons, ↓vLst, ↓vTup, ↓vTup0, ↓vList, ↓vRep, ↓vSlice, ↓cSl, ↓vCallN, ↓v1, ↓vCa, ↓vIx, ↓tP, ↓vAnd, ↓vOr, ↓vNot, ↓vIf, ↓vT, ↓v2, ↓vLc, ↓gI2, ↓gI2c, ↓gLen, ↓gII, ↓gI, ↓gInt1, ↓gRep, ↓gKids, ↓gIn, ↓iLst, ↓TL.iTup, ↓TL.iRng1, ↓TL.iRng2, ↓iEn, ↓iZp, ↓hName, ↓hCons, ↓hNil, ↓hTup, ↓wSl, ↓wIsi, ↓wYes, rho0, iniE, entOf, allSh, List.replicate, List.length_cons, List.length_nil, Nat.reduceAdd, Nat.reduceSub, Nat.reduceLT, Nat.reduceLeDiff, List.cons_append, List.nil_append, List.getElem?_cons_zero, List.getElem?_cons_succ, Option.bind_some, Ent.tr, Ent.own, Ent.put, setE, killA, noAl_ow, noAl_io1, noAl_no, noAl_ro, noAl_al', killJ_cons, killJ_nil0, noRo_ow, noRo_io, noRo_no, noRo_al, mem1, notIn, noRA_ow, noRA_io, noRA_no, noRA_al, Plc, demE, List.foldl_cons, List.foldl_nil, List.map_cons, List.map_nil, List.set_cons_zero, List.set_cons_succ, endsOf, ↓outsOf, Option.map_some, plSet, TL.putAt, T.put, true_and, and_true, lst_set, lst_snoc, lm_set, lm_snoc, shOnly, shE_ow0, shE_ow1, shE_io, shE_no, Option.isSome_some, reduceIte, if_true, if_false, Bool.false_eq_true, Nat.reduceEqDiff]
  refine ⟨fit0, fit0, fun i acc ρ => ∃ (as : List Int) (x3 x4 : Ent), acc = as.map T.int ∧ as = (((kinds.zip am).take i).filter fun x => decide (x.1.1 ≤ k0)).map (·.2) ∧ ρ = [Ent.ow 0 (Lk kinds), Ent.ow 0 (Li am), Ent.ow 0 (T.int k0), x3, x4], ⟨[], _, _, rfl, rfl, rfl⟩, fun i t acc ρ hi hI => ?_, fun acc ρ hI => ?_⟩
  · obtain ⟨as, x3, x4, rfl, ha, rfl⟩ := hI
    obtain ⟨a, b, ha', hb, rfl⟩ := zpT_get.mp hi
    obtain ⟨x, hx, rfl⟩ := mapk_get.mp ha'
    obtain ⟨y, hy, rfl⟩ := mapint_get.mp hb
    simp -dsimp only [g30, ↓uSeq, ↓uNext, ↓uFor, ↓uSt, ↓uStV, ↓uAu, ↓uAp, ↓uApMv, ↓uAuN, ↓uAlias, ↓uDem, ↓uBrk, ↓uCnt, ↓uNev, ↓uRet, ↓uRetN, ↓uExp, ↓uExpP, ↓uRaise1, ↓wCallX, ↓uExpX, ↓uRetX, ↓uSetX, ↓uTryE, ↓gLtT, ↓iRngD, ↓vSortP, ↓vCat, ↓vCatV, ↓gCat, ↓uSet, ↓uSetR, ↓uIf, ↓wVar, ↓wVarV, ↓wC, ↓w1, ↓w2, ↓wT, asB, ↓wChain, ↓wNil, ↓wCons, ↓wAnd, ↓wOr, ↓wNot, ↓wAndV, ↓wOrV, ↓wNotV, ↓wIf, ↓wCallP, ↓wCallV, ↓wCa, ↓wTup, ↓wLst, ↓oNon, ↓oSom, ↓wSlice, ↓wRev, ↓vP, ↓vSh, ↓vFit, ↓vaNil, ↓vaCons, ↓vLst, ↓vTup, ↓vTup0, ↓vList, ↓vRep, ↓vSlice, ↓cSl, ↓vCallN, ↓v1, ↓vCa, ↓vIx, ↓tP, ↓vAnd, ↓vOr, ↓vNot, ↓vIf, ↓vT, ↓v2, ↓vLc, ↓gI2, ↓gI2c, ↓gLen, ↓gII, ↓gI, ↓gInt1, ↓gRep, ↓gKids, ↓gIn, ↓iLst, ↓TL.iTup, ↓TL.iRng1, ↓TL.iRng2, ↓iEn, ↓iZp, ↓hName, ↓hCons, ↓hNil, ↓hTup, ↓wSl, ↓wIsi, ↓wYes, rho0, iniE, entOf, allSh, List.replicate, List.length_cons, List.length_nil, Nat.reduceAdd, Nat.reduceSub, Nat.reduceLT, Nat.reduceLeDiff, List.cons_append, List.nil_append, List.getElem?_cons_zero, List.getElem?_cons_succ, Option.bind_some, Ent.tr, Ent.own, Ent.put, setE, killA, noAl_ow, noAl_io1, noAl_no, noAl_ro, noAl_al', killJ_cons, killJ_nil0, noRo_ow, noRo_io, noRo_no, noRo_al, mem1, notIn, noRA_ow, noRA_io, noRA_no, noRA_al, Plc, demE, List.foldl_cons, List.foldl_nil, List.map_cons, List.map_nil, List.set_cons_zero, List.set_cons_succ, endsOf, ↓outsOf, Option.map_some, plSet, TL.putAt, T.put, true_and, and_true, lst_set, lst_snoc, lm_set, lm_snoc, shOnly, shE_ow0, shE_ow1, shE_io, shE_no, Option.isSome_some, reduceIte, if_true, if_false, Bool.false_eq_true, Nat.reduceEqDiff]
    have hz := zip_get hx hy
    refine ifS (fun q => ⟨rfl, fit0, ?_, as ++ [y], _, _, ?_, ?_, rfl⟩) fun q => ⟨as, _, _, rfl, ?_, rfl⟩
    · subst ha
      have := List.length_filter_le (fun x : K3 × Int => decide (x.1.1 ≤ k0)) ((kinds.zip am).take i)
      rw [List.length_map, List.length_map]
      rw [List.length_take, List.length_zip] at this
      omega
    · rw [List.map_append]; rfl
    · rw [filt_t hz q, List.map_append, ← ha]; rfl
    · rw [filt_f hz q]; exact ha
  · obtain ⟨as, x3, x4, rfl, ha, rfl⟩ := hI
    simp -dsimp only [↓uSeq, ↓uNext, ↓uFor, ↓uSt, ↓uStV, ↓uAu, ↓uAp, ↓uApMv, ↓uAuN, ↓uAlias, ↓uDem, ↓uBrk, ↓uCnt, ↓uNev, ↓uRet, ↓uRetN, ↓uExp, ↓uExpP, ↓uRaise1, ↓wCallX, ↓uExpX, ↓uRetX, ↓uSetX, ↓uTryE, ↓gLtT, ↓iRngD, ↓vSortP, ↓vCat, ↓vCatV, ↓gCat, ↓uSet, ↓uSetR, ↓uIf, ↓wVar, ↓wVarV, ↓wC, ↓w1, ↓w2, ↓wT, asB, ↓wChain, ↓wNil, ↓wCons, ↓wAnd, ↓wOr, ↓wNot, ↓wAndV, ↓wOrV, ↓wNotV, ↓wIf, ↓wCallP, ↓wCallV, ↓wCa, ↓wTup, ↓wLst, ↓oNon, ↓oSom, ↓wSlice, ↓wRev, ↓vP, ↓vSh, ↓vFit, ↓vaNil, ↓vaCons, ↓vLst, ↓vTup, ↓vTup0, ↓vList, ↓vRep, ↓vSlice, ↓cSl, ↓vCallN, ↓v1, ↓vCa, ↓vIx, ↓tP, ↓vAnd, ↓vOr, ↓vNot, ↓vIf, ↓vT, ↓v2, ↓vLc, ↓gI2, ↓gI2c, ↓gLen, ↓gII, ↓gI, ↓gInt1, ↓gRep, ↓gKids, ↓gIn, ↓iLst, ↓TL.iTup, ↓TL.iRng1, ↓TL.iRng2, ↓iEn, ↓iZp, ↓hName, ↓hCons, ↓hNil, ↓hTup, ↓wSl, ↓wIsi, ↓wYes, rho0, iniE, entOf, allSh, List.replicate, List.length_cons, List.length_nil, Nat.reduceAdd, Nat.reduceSub, Nat.reduceLT, Nat.reduceLeDiff, List.cons_append, List.nil_append, List.getElem?_cons_zero, List.getElem?_cons_succ, Option.bind_some, Ent.tr, Ent.own, Ent.put, setE, killA, noAl_ow, noAl_io1, noAl_no, noAl_ro, noAl_al', killJ_cons, killJ_nil0, noRo_ow, noRo_io, noRo_no, noRo_al, mem1, notIn, noRA_ow, noRA_io, noRA_no, noRA_al, Plc, demE, List.foldl_cons, List.foldl_nil, List.map_cons, List.map_nil, List.set_cons_zero, List.set_cons_succ, endsOf, ↓outsOf, Option.map_some, plSet, TL.putAt, T.put, true_and, and_true, lst_set, lst_snoc, lm_set, lm_snoc, shOnly, shE_ow0, shE_ow1, shE_io, shE_no, Option.isSome_some, reduceIte, if_true, if_false, Bool.false_eq_true, Nat.reduceEqDiff]
    have e : (zpT (List.map tr3 kinds) (List.map T.int am)).length = (kinds.zip am).length := by unfold zpT; simp
    rw [e, take_len] at ha
    refine ⟨fit0, as, rfl, rfl, ?_⟩
    rw [ha]
    exact h
end
end K89
set_option Elab.async false
set_option linter.all false
set_option maxRecDepth 100000
namespace K89
open PySem PySem.Spec PyProof.Rows L2 L2H TL
def tightL (lacks : List Int) (kinds : List K3) (am : List Int) : List Bool := lacks.mapIdx fun k l => decide (pcs kinds am k = l)
def lastN (tl : List Bool) (j : Nat) : Nat := j + (tl.drop j).findIdx id
def mx (v p : Int) : Int := if p > v then p else v
def raiseTo (f : List Int) (m : Nat) (p : Int) : List Int := f.mapIdx fun k v => if k ≤ m then mx v p else v
def foundStep (tl : List Bool) (f : List Int) (x : K3 × Int) : List Int := if x.2 > 0 then raiseTo f (lastN tl x.1.1.toNat) x.1.2.1 else f
def foundF (tl : List Bool) (n : Nat) (l : List (K3 × Int)) : List Int := l.foldl (foundStep tl) (List.replicate (n + 1) 0)
theorem tight_len {lacks : List Int} {kinds : List K3} {am : List Int} : (tightL lacks kinds am).length = lacks.length := by unfold tightL; simp
theorem tight_get {lacks : List Int} {kinds : List K3} {am : List Int} {i : Nat} {l : Int} (h : lacks[i]? = some l) : (tightL lacks kinds am)[i]? = some (decide (pcs kinds am i = l)) := by
  unfold tightL
  rw [List.getElem?_mapIdx, h]; rfl
theorem last_ge {tl : List Bool} {j : Nat} : j ≤ lastN tl j := Nat.le_add_right _ _
theorem last_at {tl : List Bool} {j : Nat} (h : lastN tl j < tl.length) : tl[lastN tl j]? = some true := by
  unfold lastN at h ⊢
  have h2 : (tl.drop j).findIdx id < (tl.drop j).length := by rw [List.length_drop]; omega
  have h3 := List.findIdx_getElem (w := h2)
  rw [← List.getElem?_drop, List.getElem?_eq_getElem h2]
  exact congrArg some h3
theorem last_no {tl : List Bool} {j i : Nat} (h1 : j ≤ i) (h2 : i < lastN tl j) (h3 : i < tl.length) : tl[i]? = some false := by
  unfold lastN at h2
  have h4 : i - j < (tl.drop j).findIdx id := by omega
  have h5 := List.not_of_lt_findIdx h4
  have h6 : i - j < (tl.drop j).length := by rw [List.length_drop]; omega
  have e : tl[i]? = (tl.drop j)[i - j]? := by rw [List.getElem?_drop]; congr 1; omega
  rw [e, List.getElem?_eq_getElem h6]
  simpa using h5
def raiseN (f : List Int) (i : Nat) (p : Int) : List Int := f.mapIdx fun k v => if k < i then mx v p else v
theorem raiseN_len {f : List Int} {i : Nat} {p : Int} : (raiseN f i p).length = f.length := by unfold raiseN; simp
theorem raiseN_0 {f : List Int} {p : Int} : raiseN f 0 p = f := by
  unfold raiseN
  apply List.ext_getElem?
  intro k
  rw [List.getElem?_mapIdx]
  cases f[k]? <;> simp
theorem raiseN_at {f : List Int} {i : Nat} {p v : Int} (h : f[i]? = some v) : (raiseN f i p)[i]? = some v := by
  unfold raiseN
  rw [List.getElem?_mapIdx, h]; simp
theorem raiseN_step {f : List Int} {i : Nat} {p v : Int} (h : f[i]? = some v) : (raiseN f i p).set i (mx v p) = raiseN f (i + 1) p := by
  unfold raiseN
  apply List.ext_getElem?
  intro k
  rw [List.getElem?_set]
  have hi := (List.getElem?_eq_some_iff.mp h).1
  by_cases e : i = k
  · subst e
    rw [if_pos rfl, if_pos (by simpa using hi), List.getElem?_mapIdx, h]; simp
  · rw [if_neg e, List.getElem?_mapIdx, List.getElem?_mapIdx]
    cases f[k]? with
    | none => rfl
    | some w =>
      by_cases q : k < i
      · simp [q, show k < i + 1 by omega]
      · simp [q, show ¬ k < i + 1 by omega]
theorem raiseN_to {f : List Int} {m : Nat} {p : Int} : raiseN f (m + 1) p = raiseTo f m p := by
  unfold raiseN raiseTo
  congr 1
  funext k v
  by_cases q : k ≤ m
  · simp [q, show k < m + 1 by omega]
  · simp [q, show ¬ k < m + 1 by omega]
theorem raiseTo_len {f : List Int} {m : Nat} {p : Int} : (raiseTo f m p).length = f.length := by unfold raiseTo; simp
theorem foundF_len {tl : List Bool} : ∀ (l : List (K3 × Int)) (f : List Int), (l.foldl (foundStep tl) f).length = f.length
  | [], _ => rfl
  | x :: l, f => by
    rw [List.foldl_cons, foundF_len l]
    unfold foundStep
    split
    · exact raiseTo_len
    · rfl
theorem foldl_take {α β : Type} {g : β → α → β} {b : β} {l : List α} {i : Nat} {x : α} (h : l[i]? = some x) : (l.take (i + 1)).foldl g b = g ((l.take i).foldl g b) x := by
  rw [← take_snoc h, List.foldl_append]; rfl
theorem zeros_flat {n : Nat} : (List.replicate n [T.int 0]).flatten = (List.replicate n (0 : Int)).map T.int := by
  induction n with
  | zero => rfl
  | succ n ih => rw [List.replicate_succ, List.flatten_cons, ih, List.replicate_succ]; rfl
theorem flats_ints (xs : List Int) : T.flats (xs.map T.int) = true := flatAts_iff.mpr fun t h => by
  obtain ⟨q, _, rfl⟩ := List.mem_map.mp h
  rfl
abbrev Lb (bs : List Bool) : T := .lst (bs.map T.bl)
section
variable {P : Program} {w : World} {K : PySem.W.Frag} {mg : Str → Option Value} {base : Heap}
def W_worths : FnT := fun ts R => ∃ (lacks : List Int) (kinds : List K3) (am : List Int), ts = [Li lacks, Lk kinds, Li am] ∧ lacks.length ≤ 1000 ∧ kinds.length ≤ 1000 ∧ am.length = kinds.length ∧
  (∀ x ∈ kinds.zip am, 0 ≤ x.1.1 ∧ (x.2 > 0 → lastN (tightL lacks kinds am) x.1.1.toNat < lacks.length)) ∧ R 1 (Li (foundF (tightL lacks kinds am) lacks.length (kinds.zip am))) []
theorem ok_worths {k : Nat} (G : Gs K mg) : FnOk P w K mg base CX0 (k + 2) G.g_worths.f G.g_worths.d ["lacks", "kinds", "amounts"] (spT K (allSh 3) W_worths) := by
  refine fnT (k := k + 1) G.g_worths.F sc_worths rfl (fun X cdv A outer s H E hX hr => ?_)
  subst hX
  refine ⟨_, (ts_cons (ts_setLc (i := 3) (hc := rfl) (hN := sc_worths.nd) (hy := rfl) (hyl := rfl) (hsw := sw_true rfl rfl rfl (by decide +kernel)) (own := [("k", 8), ("lack", 9)]) (k := 0) (js := [8, 9]) (hi := (ti_enum (by rfl) G.z_enumerate (tva_cons 0 (tv_var 0) tva_nil))) (ok := (blkOk_by (N := ["lacks", "kinds", "amounts", "tight", "found", "kind", "amount", "last", "k", "lack"]) (sc := defScope s_worths) (by decide +kernel))) (hg := fun _ _ _ _ _ => (tg_tup rfl (tgs_cons (tg_name 8 sc_worths.nd rfl (.inl rfl)) (tgs_cons (tg_name 9 sc_worths.nd rfl (.inl rfl)) tgs_nil)) h2_len)) (ht := fun _ _ _ _ _ => tvts_nil) (he := fun _ _ _ _ _ => (tv_p (tp_cmp op_eq opT_eqS (tp_call (ok_pieces_up_to (k := k + 0) G) hr (by rfl) G.g_pieces_up_to.g G.g_pieces_up_to.F.kp G.g_pieces_up_to.b (tpa_cons (tp_var 1) (tpa_cons (tp_var 2) (tpa_cons (tp_var 8) tpa_nil)))) (tp_var 9) (nomark _)))) (hj := by decide))
      (ts_cons (ts_set 4 sc_worths.nd rfl (.inl rfl) (tv_rep (tp_lst (tpa_cons tp_int tpa_nil)) (tp_op op_add opT_int (tp_callB call_len_seq caT_len (by rfl) G.z_len PySem.boot_len (tpa_cons (tp_var 0) tpa_nil)) tp_int)))
      (ts_cons (ts_for PassesOwn.never rfl (ti_zip (by rfl) G.z_zip (tva_cons 0 (tv_var 1) (tva_cons 0 (tv_var 2) tva_nil))) (tg_tup rfl (tgs_cons (tg_name 5 sc_worths.nd rfl (.inl rfl)) (tgs_cons (tg_name 6 sc_worths.nd rfl (.inl rfl)) tgs_nil)) h2_len) (ts_one (ts_if (tvt_p (tpt_cmp op_gt opT_bl (tp_var 6) tp_int (nomark _))) (ts_cons (ts_set 7 sc_worths.nd rfl (.inl rfl) (tv_p (tp_ix (tp_var 5) tp_int (fun _ _ => rfl))))
      (ts_cons (ts_while PassesOwn.never (tvt_p (tpt_not (tpt_val (tp_ix (tp_var 3) (tp_var 7) (fun _ _ => rfl))))) (ts_one (ts_augN 7 ip_add sc_worths.nd rfl (.inl rfl) (tv_p tp_int))))
      (ts_one (ts_for PassesOwn.never rfl (ti_rng1 (by rfl) G.z_range (tp_op op_add opT_int (tp_var 7) tp_int)) (tg_name 8 sc_worths.nd rfl (.inl rfl)) (ts_one (ts_store 4 (tv_p (tp_callB (call_max2 rfl) caT_ii (by rfl) G.z_max (by decide +kernel) (tpa_cons (tp_ix (tp_var 4) (tp_var 8) (fun _ _ => rfl)) (tpa_cons (tp_ix (tp_var 5) tp_int (fun _ _ => rfl)) tpa_nil)))) (tp_var 8))))))) ts_nil)))
      (ts_one (ts_ret (tv_var 4)))))), fun ts R hW hlen => ?_⟩

  obtain ⟨lacks, kinds, am, rfl, hn, hk, hl, hlast, h⟩ := hW
  simp -dsimp only [↓uSeq, ↓uNext, ↓uFor, ↓uSt, ↓uStV, ↓uAu, ↓uAp, ↓uApMv, ↓uAuN, ↓uAlias, ↓uDem, ↓uBrk, ↓uCnt, ↓uNev, ↓uRet, ↓uRetN, ↓uExp, ↓uExpP, ↓uRaise1, ↓wCallX, ↓uExpX, ↓uRetX, ↓uSetX, ↓uTryE, ↓gLtT, ↓iRngD, ↓vSortP, ↓vCat, ↓vCatV, ↓gCat, ↓uSet, ↓uSetR, ↓uIf, ↓wVar, ↓wVarV, ↓wC, ↓w1, ↓w2, ↓wT, asB, ↓wChain, ↓wNil, ↓wCons, ↓wAnd, ↓wOr, ↓wNot, ↓wAndV, ↓wOrV, ↓wNotV, ↓wIf, ↓wCallP, ↓wCallV, ↓wCa, ↓wTup, ↓wLst, ↓oNon, ↓oSom, ↓wSlice, ↓wRev, ↓vP, ↓vSh, ↓vFit, ↓vaNil, ↓vaCons, ↓vLst, ↓vTup, ↓vTup0, ↓vList, ↓vRep, ↓vSlice, ↓cSl, ↓vCallN, ↓v1, ↓vCa, ↓vIx, ↓tP, ↓vAnd, ↓vOr, ↓vNot, ↓vIf, ↓vT, ↓v2, ↓vLc, ↓gI2, ↓gI2c, ↓gLen, ↓gII, ↓gI, ↓gInt1, ↓gRep, ↓gKids, ↓gIn, ↓iLst, ↓TL.iTup, ↓TL.iRng1, ↓TL.iRng2, ↓iEn, ↓iZp, ↓hName, ↓hCons, ↓hNil, ↓hTup, ↓wSl, ↓wIsi, ↓wYes, rho0, iniE, entOf, allSh, List.replicate, List.length_cons, List.length_nil, Nat.reduceAdd, Nat.reduceSub, Nat.reduceLT, Nat.reduceLeDiff, List.cons_append, List.nil_append, List.getElem?_cons_zero, List.getElem?_cons_succ, Option.bind_some, Ent.tr, Ent.own, Ent.put, setE, killA, noAl_ow, noAl_io1, noAl_no, noAl_ro, noAl_al', killJ_cons, killJ_nil0, noRo_ow, noRo_io, noRo_no, noRo_al, mem1, notIn, noRA_ow, noRA_io, noRA_no, noRA_al, Plc, demE, List.foldl_cons, List.foldl_nil, List.map_cons, List.map_nil, List.set_cons_zero, List.set_cons_succ, endsOf, ↓outsOf, Option.map_some, plSet, TL.putAt, T.put, true_and, and_true, lst_set, lst_snoc, lm_set, lm_snoc, shOnly, shE_ow0, shE_ow1, shE_io, shE_no, Option.isSome_some, reduceIte, if_true, if_false, Bool.false_eq_true, Nat.reduceEqDiff]
  refine ⟨fit0, fun i acc ρ => ∃ (bs : List Bool), acc = bs.map T.bl ∧ bs = (tightL lacks kinds am).take i ∧ ρ = [Ent.ow 0 (Li lacks), Ent.ow 0 (Lk kinds), Ent.ow 0 (Li am), Ent.no, Ent.no, Ent.no, Ent.no, Ent.no, Ent.no, Ent.no], ⟨[], rfl, rfl, rfl⟩, fun i t acc ρ hi hI => ?_, fun acc ρ hI => ?_⟩
  · obtain ⟨bs, rfl, hb, rfl⟩ := hI
    obtain ⟨u, hu, rfl⟩ := enT_get.mp hi
    obtain ⟨l, hx, rfl⟩ := mapint_get.mp hu
    simp -dsimp only [↓uSeq, ↓uNext, ↓uFor, ↓uSt, ↓uStV, ↓uAu, ↓uAp, ↓uApMv, ↓uAuN, ↓uAlias, ↓uDem, ↓uBrk, ↓uCnt, ↓uNev, ↓uRet, ↓uRetN, ↓uExp, ↓uExpP, ↓uRaise1, ↓wCallX, ↓uExpX, ↓uRetX, ↓uSetX, ↓uTryE, ↓gLtT, ↓iRngD, ↓vSortP, ↓vCat, ↓vCatV, ↓gCat, ↓uSet, ↓uSetR, ↓uIf, ↓wVar, ↓wVarV, ↓wC, ↓w1, ↓w2, ↓wT, asB, ↓wChain, ↓wNil, ↓wCons, ↓wAnd, ↓wOr, ↓wNot, ↓wAndV, ↓wOrV, ↓wNotV, ↓wIf, ↓wCallP, ↓wCallV, ↓wCa, ↓wTup, ↓wLst, ↓oNon, ↓oSom, ↓wSlice, ↓wRev, ↓vP, ↓vSh, ↓vFit, ↓vaNil, ↓vaCons, ↓vLst, ↓vTup, ↓vTup0, ↓vList, ↓vRep, ↓vSlice, ↓cSl, ↓vCallN, ↓v1, ↓vCa, ↓vIx, ↓tP, ↓vAnd, ↓vOr, ↓vNot, ↓vIf, ↓vT, ↓v2, ↓vLc, ↓gI2, ↓gI2c, ↓gLen, ↓gII, ↓gI, ↓gInt1, ↓gRep, ↓gKids, ↓gIn, ↓iLst, ↓TL.iTup, ↓TL.iRng1, ↓TL.iRng2, ↓iEn, ↓iZp, ↓hName, ↓hCons, ↓hNil, ↓hTup, ↓wSl, ↓wIsi, ↓wYes, rho0, iniE, entOf, allSh, List.replicate, List.length_cons, List.length_nil, Nat.reduceAdd, Nat.reduceSub, Nat.reduceLT, Nat.reduceLeDiff, List.cons_append, List.nil_append, List.getElem?_cons_zero, List.getElem?_cons_succ, Option.bind_some, Ent.tr, Ent.own, Ent.put, setE, killA, noAl_ow, noAl_io1, noAl_no, noAl_ro, noAl_al', killJ_cons, killJ_nil0, noRo_ow, noRo_io, noRo_no, noRo_al, mem1, notIn, noRA_ow, noRA_io, noRA_no, noRA_al, Plc, demE, List.foldl_cons, List.foldl_nil, List.map_cons, List.map_nil, List.set_cons_zero, List.set_cons_succ, endsOf, ↓outsOf, Option.map_some, plSet, TL.putAt, T.put, true_and, and_true, lst_set, lst_snoc, lm_set, lm_snoc, shOnly, shE_ow0, shE_ow1, shE_io, shE_no, Option.isSome_some, reduceIte, if_true, if_false, Bool.false_eq_true, Nat.reduceEqDiff]
    refine ⟨kinds, am, _, rfl, hk, hl, rfl, fit0, ?_, bs ++ [decide (pcs kinds am i = l)], ?_, ?_⟩
    · have := (List.getElem?_eq_some_iff.mp hx).1
      subst hb
      rw [List.length_map, List.length_take, tight_len]; omega
    · rw [List.map_append]; rfl
    · rw [hb]; exact take_snoc (tight_get hx)
  obtain ⟨bs, rfl, hb, rfl⟩ := hI
  have el : (enT (List.map T.int lacks)).length = (tightL lacks kinds am).length := by unfold enT; rw [List.length_mapIdx, List.length_map, tight_len]
  rw [el, take_len] at hb
  subst hb
  simp -dsimp only [↓uSeq, ↓uNext, ↓uFor, ↓uSt, ↓uStV, ↓uAu, ↓uAp, ↓uApMv, ↓uAuN, ↓uAlias, ↓uDem, ↓uBrk, ↓uCnt, ↓uNev, ↓uRet, ↓uRetN, ↓uExp, ↓uExpP, ↓uRaise1, ↓wCallX, ↓uExpX, ↓uRetX, ↓uSetX, ↓uTryE, ↓gLtT, ↓iRngD, ↓vSortP, ↓vCat, ↓vCatV, ↓gCat, ↓uSet, ↓uSetR, ↓uIf, ↓wVar, ↓wVarV, ↓wC, ↓w1, ↓w2, ↓wT, asB, ↓wChain, ↓wNil, ↓wCons, ↓wAnd, ↓wOr, ↓wNot, ↓wAndV, ↓wOrV, ↓wNotV, ↓wIf, ↓wCallP, ↓wCallV, ↓wCa, ↓wTup, ↓wLst, ↓oNon, ↓oSom, ↓wSlice, ↓wRev, ↓vP, ↓vSh, ↓vFit, ↓vaNil, ↓vaCons, ↓vLst, ↓vTup, ↓vTup0, ↓vList, ↓vRep, ↓vSlice, ↓cSl, ↓vCallN, ↓v1, ↓vCa, ↓vIx, ↓tP, ↓vAnd, ↓vOr, ↓vNot, ↓vIf, ↓vT, ↓v2, ↓vLc, ↓gI2, ↓gI2c, ↓gLen, ↓gII, ↓gI, ↓gInt1, ↓gRep, ↓gKids, ↓gIn, ↓iLst, ↓TL.iTup, ↓TL.iRng1, ↓TL.iRng2, ↓iEn, ↓iZp, ↓hName, ↓hCons, ↓hNil, ↓hTup, ↓wSl, ↓wIsi, ↓wYes, rho0, iniE, entOf, allSh, List.replicate, List.length_cons, List.length_nil, Nat.reduceAdd, Nat.reduceSub, Nat.reduceLT, Nat.reduceLeDiff, List.cons_append, List.nil_append, List.getElem?_cons_zero, List.getElem?_cons_succ, Option.bind_some, Ent.tr, Ent.own, Ent.put, setE, killA, noAl_ow, noAl_io1, noAl_no, noAl_ro, noAl_al', killJ_cons, killJ_nil0, noRo_ow, noRo_io, noRo_no, noRo_al, mem1, notIn, noRA_ow, noRA_io, noRA_no, noRA_al, Plc, demE, List.foldl_cons, List.foldl_nil, List.map_cons, List.map_nil, List.set_cons_zero, List.set_cons_succ, endsOf, ↓outsOf, Option.map_some, plSet, TL.putAt, T.put, true_and, and_true, lst_set, lst_snoc, lm_set, lm_snoc, shOnly, shE_ow0, shE_ow1, shE_io, shE_no, Option.isSome_some, reduceIte, if_true, if_false, Bool.false_eq_true, Nat.reduceEqDiff]
  have e : ((↑(List.map T.int lacks).length : Int) + 1).toNat = lacks.length + 1 := by rw [List.length_map]; omega
  rw [e, zeros_flat, List.length_map]
  refine ⟨by omega, by omega, by omega, flats_ints _, fit0, fit0, ?_⟩
  refine ⟨fun i ρ => ∃ x5 x6 x7 x8, ρ = [Ent.ow 0 (Li lacks), Ent.ow 0 (Lk kinds), Ent.ow 0 (Li am), Ent.ow 1 (Lb (tightL lacks kinds am)), Ent.ow 1 (Li (foundF (tightL lacks kinds am) lacks.length ((kinds.zip am).take i))), x5, x6, x7, x8, Ent.no], ⟨_, _, _, _, rfl⟩, fun i t ρ hi hI => ?_, fun ρ hI => ?_⟩
  · obtain ⟨x5, x6, x7, x8, rfl⟩ := hI
    obtain ⟨a, b, ha', hb, rfl⟩ := zpT_get.mp hi
    obtain ⟨x, hx, rfl⟩ := mapk_get.mp ha'
    obtain ⟨y, hy, rfl⟩ := mapint_get.mp hb
    have hz := zip_get hx hy
    have hm := hlast _ (List.mem_of_getElem? hz)
    have st : foundF (tightL lacks kinds am) lacks.length ((kinds.zip am).take (i + 1)) = foundStep (tightL lacks kinds am) (foundF (tightL lacks kinds am) lacks.length ((kinds.zip am).take i)) (x, y) := foldl_take hz
    simp -dsimp only [g30, ↓uSeq, ↓uNext, ↓uFor, ↓uSt, ↓uStV, ↓uAu, ↓uAp, ↓uApMv, ↓uAuN, ↓uAlias, ↓uDem, ↓uBrk, ↓uCnt, ↓uNev, ↓uRet, ↓uRetN, ↓uExp, ↓uExpP, ↓uRaise1, ↓wCallX, ↓uExpX, ↓uRetX, ↓uSetX, ↓uTryE, ↓gLtT, ↓iRngD, ↓vSortP, ↓vCat, ↓vCatV, ↓gCat, ↓uSet, ↓uSetR, ↓uIf, ↓wVar, ↓wVarV, ↓wC, ↓w1, ↓w2, ↓wT, asB, ↓wChain, ↓wNil, ↓wCons, ↓wAnd, ↓wOr, ↓wNot, ↓wAndV, ↓wOrV, ↓wNotV, ↓wIf, ↓wCallP, ↓wCallV, ↓wCa, ↓wTup, ↓wLst, ↓oNon, ↓oSom, ↓wSlice, ↓wRev, ↓vP, ↓vSh, ↓vFit, ↓vaNil, ↓vaCons, ↓vLst, ↓vTup, ↓vTup0, ↓vList, ↓vRep, ↓vSlice, ↓cSl, ↓vCallN, ↓v1, ↓vCa, ↓vIx, ↓tP, ↓vAnd, ↓vOr, ↓vNot, ↓vIf, ↓vT, ↓v2, ↓vLc, ↓gI2, ↓gI2c, ↓gLen, ↓gII, ↓gI, ↓gInt1, ↓gRep, ↓gKids, ↓gIn, ↓iLst, ↓TL.iTup, ↓TL.iRng1, ↓TL.iRng2, ↓iEn, ↓iZp, ↓hName, ↓hCons, ↓hNil, ↓hTup, ↓wSl, ↓wIsi, ↓wYes, rho0, iniE, entOf, allSh, List.replicate, List.length_cons, List.length_nil, Nat.reduceAdd, Nat.reduceSub, Nat.reduceLT, Nat.reduceLeDiff, List.cons_append, List.nil_append, List.getElem?_cons_zero, List.getElem?_cons_succ, Option.bind_some, Ent.tr, Ent.own, Ent.put, setE, killA, noAl_ow, noAl_io1, noAl_no, noAl_ro, noAl_al', killJ_cons, killJ_nil0, noRo_ow, noRo_io, noRo_no, noRo_al, mem1, notIn, noRA_ow, noRA_io, noRA_no, noRA_al, Plc, demE, List.foldl_cons, List.foldl_nil, List.map_cons, List.map_nil, List.set_cons_zero, List.set_cons_succ, endsOf, ↓outsOf, Option.map_some, plSet, TL.putAt, T.put, true_and, and_true, lst_set, lst_snoc, lm_set, lm_snoc, shOnly, shE_ow0, shE_ow1, shE_io, shE_no, Option.isSome_some, reduceIte, if_true, if_false, Bool.false_eq_true, Nat.reduceEqDiff]
    refine ifS (fun q => ?_) fun q => ?_
    · have q : 0 < y := of_decide_eq_true q
      obtain ⟨j, hj⟩ := Int.eq_ofNat_of_zero_le hm.1
      simp only at hj
      have hlt := hm.2 q
      rw [show (x, y).1.1.toNat = j from by show x.1.toNat = j; omega] at hlt
      generalize hM : lastN (tightL lacks kinds am) j = M at hlt
      have hMl : M < (tightL lacks kinds am).length := by rw [tight_len]; exact hlt
      have stp : foundF (tightL lacks kinds am) lacks.length ((kinds.zip am).take (i + 1)) = raiseTo (foundF (tightL lacks kinds am) lacks.length ((kinds.zip am).take i)) M x.2.1 := by
        rw [st]
        unfold foundStep
        rw [if_pos q, show (x, y).1.1.toNat = j from by show x.1.toNat = j; omega, hM]
      generalize hF : foundF (tightL lacks kinds am) lacks.length ((kinds.zip am).take i) = F at stp
      have hFl : F.length = lacks.length + 1 := by rw [← hF]; unfold foundF; rw [foundF_len]; simp
      refine ⟨rfl, ?_⟩
      refine ⟨fun m ρ => ∃ (n : Nat) (x8 : Ent), j ≤ n ∧ n ≤ M ∧ m = M - n ∧ ρ = [Ent.ow 0 (Li lacks), Ent.ow 0 (Lk kinds), Ent.ow 0 (Li am), Ent.ow 1 (Lb (tightL lacks kinds am)), Ent.ow 1 (Li F), Ent.ow 0 (tr3 x), Ent.ow 0 (.int y), Ent.ow 0 (.int n), x8, Ent.no], ⟨M - j, j, _, Nat.le_refl _, hM ▸ last_ge, rfl, by rw [hj]⟩, fun m ρ hI => ?_⟩
      obtain ⟨n, x8, h1, h2, rfl, rfl⟩ := hI
      simp -dsimp only [↓uSeq, ↓uNext, ↓uFor, ↓uSt, ↓uStV, ↓uAu, ↓uAp, ↓uApMv, ↓uAuN, ↓uAlias, ↓uDem, ↓uBrk, ↓uCnt, ↓uNev, ↓uRet, ↓uRetN, ↓uExp, ↓uExpP, ↓uRaise1, ↓wCallX, ↓uExpX, ↓uRetX, ↓uSetX, ↓uTryE, ↓gLtT, ↓iRngD, ↓vSortP, ↓vCat, ↓vCatV, ↓gCat, ↓uSet, ↓uSetR, ↓uIf, ↓wVar, ↓wVarV, ↓wC, ↓w1, ↓w2, ↓wT, asB, ↓wChain, ↓wNil, ↓wCons, ↓wAnd, ↓wOr, ↓wNot, ↓wAndV, ↓wOrV, ↓wNotV, ↓wIf, ↓wCallP, ↓wCallV, ↓wCa, ↓wTup, ↓wLst, ↓oNon, ↓oSom, ↓wSlice, ↓wRev, ↓vP, ↓vSh, ↓vFit, ↓vaNil, ↓vaCons, ↓vLst, ↓vTup, ↓vTup0, ↓vList, ↓vRep, ↓vSlice, ↓cSl, ↓vCallN, ↓v1, ↓vCa, ↓vIx, ↓tP, ↓vAnd, ↓vOr, ↓vNot, ↓vIf, ↓vT, ↓v2, ↓vLc, ↓gI2, ↓gI2c, ↓gLen, ↓gII, ↓gI, ↓gInt1, ↓gRep, ↓gKids, ↓gIn, ↓iLst, ↓TL.iTup, ↓TL.iRng1, ↓TL.iRng2, ↓iEn, ↓iZp, ↓hName, ↓hCons, ↓hNil, ↓hTup, ↓wSl, ↓wIsi, ↓wYes, rho0, iniE, entOf, allSh, List.replicate, List.length_cons, List.length_nil, Nat.reduceAdd, Nat.reduceSub, Nat.reduceLT, Nat.reduceLeDiff, List.cons_append, List.nil_append, List.getElem?_cons_zero, List.getElem?_cons_succ, Option.bind_some, Ent.tr, Ent.own, Ent.put, setE, killA, noAl_ow, noAl_io1, noAl_no, noAl_ro, noAl_al', killJ_cons, killJ_nil0, noRo_ow, noRo_io, noRo_no, noRo_al, mem1, notIn, noRA_ow, noRA_io, noRA_no, noRA_al, Plc, demE, List.foldl_cons, List.foldl_nil, List.map_cons, List.map_nil, List.set_cons_zero, List.set_cons_succ, endsOf, ↓outsOf, Option.map_some, plSet, TL.putAt, T.put, true_and, and_true, lst_set, lst_snoc, lm_set, lm_snoc, shOnly, shE_ow0, shE_ow1, shE_io, shE_no, Option.isSome_some, reduceIte, if_true, if_false, Bool.false_eq_true, Nat.reduceEqDiff]
      refine gIx_lst (x := .bl ((tightL lacks kinds am)[n]'(by omega))) (by rw [List.getElem?_map, List.getElem?_eq_getElem (by omega : n < (tightL lacks kinds am).length)]; rfl) ?_
      simp -dsimp only [↓uSeq, ↓uNext, ↓uFor, ↓uSt, ↓uStV, ↓uAu, ↓uAp, ↓uApMv, ↓uAuN, ↓uAlias, ↓uDem, ↓uBrk, ↓uCnt, ↓uNev, ↓uRet, ↓uRetN, ↓uExp, ↓uExpP, ↓uRaise1, ↓wCallX, ↓uExpX, ↓uRetX, ↓uSetX, ↓uTryE, ↓gLtT, ↓iRngD, ↓vSortP, ↓vCat, ↓vCatV, ↓gCat, ↓uSet, ↓uSetR, ↓uIf, ↓wVar, ↓wVarV, ↓wC, ↓w1, ↓w2, ↓wT, asB, ↓wChain, ↓wNil, ↓wCons, ↓wAnd, ↓wOr, ↓wNot, ↓wAndV, ↓wOrV, ↓wNotV, ↓wIf, ↓wCallP, ↓wCallV, ↓wCa, ↓wTup, ↓wLst, ↓oNon, ↓oSom, ↓wSlice, ↓wRev, ↓vP, ↓vSh, ↓vFit, ↓vaNil, ↓vaCons, ↓vLst, ↓vTup, ↓vTup0, ↓vList, ↓vRep, ↓vSlice, ↓cSl, ↓vCallN, ↓v1, ↓vCa, ↓vIx, ↓tP, ↓vAnd, ↓vOr, ↓vNot, ↓vIf, ↓vT, ↓v2, ↓vLc, ↓gI2, ↓gI2c, ↓gLen, ↓gII, ↓gI, ↓gInt1, ↓gRep, ↓gKids, ↓gIn, ↓iLst, ↓TL.iTup, ↓TL.iRng1, ↓TL.iRng2, ↓iEn, ↓iZp, ↓hName, ↓hCons, ↓hNil, ↓hTup, ↓wSl, ↓wIsi, ↓wYes, rho0, iniE, entOf, allSh, List.replicate, List.length_cons, List.length_nil, Nat.reduceAdd, Nat.reduceSub, Nat.reduceLT, Nat.reduceLeDiff, List.cons_append, List.nil_append, List.getElem?_cons_zero, List.getElem?_cons_succ, Option.bind_some, Ent.tr, Ent.own, Ent.put, setE, killA, noAl_ow, noAl_io1, noAl_no, noAl_ro, noAl_al', killJ_cons, killJ_nil0, noRo_ow, noRo_io, noRo_no, noRo_al, mem1, notIn, noRA_ow, noRA_io, noRA_no, noRA_al, Plc, demE, List.foldl_cons, List.foldl_nil, List.map_cons, List.map_nil, List.set_cons_zero, List.set_cons_succ, endsOf, ↓outsOf, Option.map_some, plSet, TL.putAt, T.put, true_and, and_true, lst_set, lst_snoc, lm_set, lm_snoc, shOnly, shE_ow0, shE_ow1, shE_io, shE_no, Option.isSome_some, reduceIte, if_true, if_false, Bool.false_eq_true, Nat.reduceEqDiff]
      refine ifS (fun q2 => ?_) fun q2 => ?_
      · have q3 : n < M := by
          rcases Nat.lt_or_ge n M with z | z
          · exact z
          · have e : n = M := by omega
            subst e
            have z2 := last_at (tl := tightL lacks kinds am) (j := j) (by rw [hM]; exact hMl)
            rw [hM, List.getElem?_eq_getElem hMl] at z2
            rw [Option.some.inj z2] at q2
            cases q2
        exact ⟨rfl, M - (n + 1), by omega, n + 1, _, by omega, by omega, rfl, rfl⟩
      · have q3 : n = M := by
          rcases Nat.lt_or_ge n M with z | z
          · exfalso
            have z2 := last_no (tl := tightL lacks kinds am) (j := j) h1 (by rw [hM]; exact z) (by omega)
            rw [List.getElem?_eq_getElem (by omega)] at z2
            rw [Option.some.inj z2] at q2
            exact q2 rfl
          · omega
        subst q3
        refine ⟨by omega, by omega, ?_⟩
        refine ⟨fun i2 ρ => ∃ x8, ρ = [Ent.ow 0 (Li lacks), Ent.ow 0 (Lk kinds), Ent.ow 0 (Li am), Ent.ow 1 (Lb (tightL lacks kinds am)), Ent.ow 1 (Li (raiseN F i2 x.2.1)), Ent.ow 0 (tr3 x), Ent.ow 0 (.int y), Ent.ow 0 (.int n), x8, Ent.no], ⟨_, by rw [raiseN_0]⟩, fun i2 t ρ hi2 hI => ?_, fun ρ hI => ?_⟩
        · obtain ⟨x8, rfl⟩ := hI
          obtain ⟨hlt2, rfl⟩ := rgT_get.mp hi2
          rw [Int.zero_add]
          have h3 : i2 < F.length := by omega
          have h4 := List.getElem?_eq_getElem h3
          have h5 := raiseN_at (p := x.2.1) h4
          simp -dsimp only [g31, ↓uSeq, ↓uNext, ↓uFor, ↓uSt, ↓uStV, ↓uAu, ↓uAp, ↓uApMv, ↓uAuN, ↓uAlias, ↓uDem, ↓uBrk, ↓uCnt, ↓uNev, ↓uRet, ↓uRetN, ↓uExp, ↓uExpP, ↓uRaise1, ↓wCallX, ↓uExpX, ↓uRetX, ↓uSetX, ↓uTryE, ↓gLtT, ↓iRngD, ↓vSortP, ↓vCat, ↓vCatV, ↓gCat, ↓uSet, ↓uSetR, ↓uIf, ↓wVar, ↓wVarV, ↓wC, ↓w1, ↓w2, ↓wT, asB, ↓wChain, ↓wNil, ↓wCons, ↓wAnd, ↓wOr, ↓wNot, ↓wAndV, ↓wOrV, ↓wNotV, ↓wIf, ↓wCallP, ↓wCallV, ↓wCa, ↓wTup, ↓wLst, ↓oNon, ↓oSom, ↓wSlice, ↓wRev, ↓vP, ↓vSh, ↓vFit, ↓vaNil, ↓vaCons, ↓vLst, ↓vTup, ↓vTup0, ↓vList, ↓vRep, ↓vSlice, ↓cSl, ↓vCallN, ↓v1, ↓vCa, ↓vIx, ↓tP, ↓vAnd, ↓vOr, ↓vNot, ↓vIf, ↓vT, ↓v2, ↓vLc, ↓gI2, ↓gI2c, ↓gLen, ↓gII, ↓gI, ↓gInt1, ↓gRep, ↓gKids, ↓gIn, ↓iLst, ↓TL.iTup, ↓TL.iRng1, ↓TL.iRng2, ↓iEn, ↓iZp, ↓hName, ↓hCons, ↓hNil, ↓hTup, ↓wSl, ↓wIsi, ↓wYes, rho0, iniE, entOf, allSh, List.replicate, List.length_cons, List.length_nil, Nat.reduceAdd, Nat.reduceSub, Nat.reduceLT, Nat.reduceLeDiff, List.cons_append, List.nil_append, List.getElem?_cons_zero, List.getElem?_cons_succ, Option.bind_some, Ent.tr, Ent.own, Ent.put, setE, killA, noAl_ow, noAl_io1, noAl_no, noAl_ro, noAl_al', killJ_cons, killJ_nil0, noRo_ow, noRo_io, noRo_no, noRo_al, mem1, notIn, noRA_ow, noRA_io, noRA_no, noRA_al, Plc, demE, List.foldl_cons, List.foldl_nil, List.map_cons, List.map_nil, List.set_cons_zero, List.set_cons_succ, endsOf, ↓outsOf, Option.map_some, plSet, TL.putAt, T.put, true_and, and_true, lst_set, lst_snoc, lm_set, lm_snoc, shOnly, shE_ow0, shE_ow1, shE_io, shE_no, Option.isSome_some, reduceIte, if_true, if_false, Bool.false_eq_true, Nat.reduceEqDiff]
          refine gIx_lst (x := .int F[i2]) (by rw [List.getElem?_map, h5]; rfl) ?_
          have ix : ixN (List.map T.int (raiseN F i2 x.2.1)).length (i2 : Int) = some i2 := ixN_nat (by rw [List.length_map, raiseN_len]; exact h3)
          refine ⟨rfl, ?_⟩
          rw [ix]
          refine ⟨fit0, Ent.ow 0 (.int i2), ?_⟩
          rw [show (if x.2.1 > F[i2] then x.2.1 else F[i2]) = mx F[i2] x.2.1 from rfl, raiseN_step h4]
        · obtain ⟨x8, rfl⟩ := hI
          rw [rgT_len, show ((n : Int) + 1).toNat = n + 1 by omega, raiseN_to, ← stp]
          exact ⟨_, _, _, _, rfl⟩
    · have q : ¬ 0 < y := fun z => q (decide_eq_true z)
      have st2 : foundF (tightL lacks kinds am) lacks.length ((kinds.zip am).take (i + 1)) = foundF (tightL lacks kinds am) lacks.length ((kinds.zip am).take i) := by
        rw [st]
        unfold foundStep
        rw [if_neg q]
      rw [st2]
      exact ⟨_, _, _, _, rfl⟩
  · obtain ⟨x5, x6, x7, x8, rfl⟩ := hI
    have e : (zpT (List.map tr3 kinds) (List.map T.int am)).length = (kinds.zip am).length := by unfold zpT; simp
    rw [e, take_len]
    simp -dsimp only [↓uSeq, ↓uNext, ↓uFor, ↓uSt, ↓uStV, ↓uAu, ↓uAp, ↓uApMv, ↓uAuN, ↓uAlias, ↓uDem, ↓uBrk, ↓uCnt, ↓uNev, ↓uRet, ↓uRetN, ↓uExp, ↓uExpP, ↓uRaise1, ↓wCallX, ↓uExpX, ↓uRetX, ↓uSetX, ↓uTryE, ↓gLtT, ↓iRngD, ↓vSortP, ↓vCat, ↓vCatV, ↓gCat, ↓uSet, ↓uSetR, ↓uIf, ↓wVar, ↓wVarV, ↓wC, ↓w1, ↓w2, ↓wT, asB, ↓wChain, ↓wNil, ↓wCons, ↓wAnd, ↓wOr, ↓wNot, ↓wAndV, ↓wOrV, ↓wNotV, ↓wIf, ↓wCallP, ↓wCallV, ↓wCa, ↓wTup, ↓wLst, ↓oNon, ↓oSom, ↓wSlice, ↓wRev, ↓vP, ↓vSh, ↓vFit, ↓vaNil, ↓vaCons, ↓vLst, ↓vTup, ↓vTup0, ↓vList, ↓vRep, ↓vSlice, ↓cSl, ↓vCallN, ↓v1, ↓vCa, ↓vIx, ↓tP, ↓vAnd, ↓vOr, ↓vNot, ↓vIf, ↓vT, ↓v2, ↓vLc, ↓gI2, ↓gI2c, ↓gLen, ↓gII, ↓gI, ↓gInt1, ↓gRep, ↓gKids, ↓gIn, ↓iLst, ↓TL.iTup, ↓TL.iRng1, ↓TL.iRng2, ↓iEn, ↓iZp, ↓hName, ↓hCons, ↓hNil, ↓hTup, ↓wSl, ↓wIsi, ↓wYes, rho0, iniE, entOf, allSh, List.replicate, List.length_cons, List.length_nil, Nat.reduceAdd, Nat.reduceSub, Nat.reduceLT, Nat.reduceLeDiff, List.cons_append, List.nil_append, List.getElem?_cons_zero, List.getElem?_cons_succ, Option.bind_some, Ent.tr, Ent.own, Ent.put, setE, killA, noAl_ow, noAl_io1, noAl_no, noAl_ro, noAl_al', killJ_cons, killJ_nil0, noRo_ow, noRo_io, noRo_no, noRo_al, mem1, notIn, noRA_ow, noRA_io, noRA_no, noRA_al, Plc, demE, List.foldl_cons, List.foldl_nil, List.map_cons, List.map_nil, List.set_cons_zero, List.set_cons_succ, endsOf, ↓outsOf, Option.map_some, plSet, TL.putAt, T.put, true_and, and_true, lst_set, lst_snoc, lm_set, lm_snoc, shOnly, shE_ow0, shE_ow1, shE_io, shE_no, Option.isSome_some, reduceIte, if_true, if_false, Bool.false_eq_true, Nat.reduceEqDiff]
    exact h
end
end K89
set_option Elab.async false
set_option linter.all false
set_option maxRecDepth 100000
namespace K89
open PySem PySem.Spec PyProof.Rows L2 TL
/-! ### the greedy choice -/
def mn (i j : Int) : Int := if j < i then j else i
abbrev P2 := Int × Int
def kAt (kinds : List K3) (i : Nat) : K3 := kinds.getD i (0, 0, 0)
def aAt (am : List Int) (i : Nat) : Int := am.getD i 0
theorem kAt_of {kinds : List K3} {i : Nat} {x : K3} (h : kinds[i]? = some x) : kAt kinds i = x := by unfold kAt; rw [List.getD_eq_getElem?_getD, h]; rfl
theorem aAt_of {am : List Int} {i : Nat} {x : Int} (h : am[i]? = some x) : aAt am i = x := by unfold aAt; rw [List.getD_eq_getElem?_getD, h]; rfl
theorem aAt_set {am : List Int} {i j : Nat} {v : Int} (h : i < am.length) : aAt (am.set i v) j = if i = j then v else aAt am j := by
  unfold aAt
  rw [List.getD_eq_getElem?_getD, List.getD_eq_getElem?_getD, List.getElem?_set]
  by_cases e : i = j
  · subst e; simp [h]
  · simp [e]
theorem aAt_get {am : List Int} {i : Nat} (h : i < am.length) : am[i]? = some (aAt am i) := by
  unfold aAt; rw [List.getD_eq_getElem?_getD, List.getElem?_eq_getElem h]; rfl
theorem kAt_get {kinds : List K3} {i : Nat} (h : i < kinds.length) : kinds[i]? = some (kAt kinds i) := by
  unfold kAt; rw [List.getD_eq_getElem?_getD, List.getElem?_eq_getElem h]; rfl
/-- one kind asked -/
def sStep (kinds : List K3) (k : Nat) (s : List Int × Int) (q : P2) : List Int × Int :=
  if s.2 > 0 ∧ (kAt kinds q.2.toNat).1 ≤ k then (s.1.set q.2.toNat (aAt s.1 q.2.toNat + mn s.2 ((kAt kinds q.2.toNat).2.2 - aAt s.1 q.2.toNat)), s.2 - mn s.2 ((kAt kinds q.2.toNat).2.2 - aAt s.1 q.2.toNat)) else s
def scan (kinds : List K3) (k : Nat) (qs : List P2) (s : List Int × Int) : List Int × Int := qs.foldl (sStep kinds k) s
def gr (kinds : List K3) (qs : List P2) : List Int → Nat → List Int → Except Nat (List Int)
  | [], _, am => .ok am
  | l :: ls, k, am => if (scan kinds k qs (am, l - pcs kinds am k)).2 > 0 then .error k else gr kinds qs ls (k + 1) (scan kinds k qs (am, l - pcs kinds am k)).1
def IsCheap (kinds : List K3) (qs : List P2) : Prop := qs.Perm (kinds.mapIdx fun i x => (x.2.1, (i : Int))) ∧ qs.Pairwise (fun x y => SrtO.lexB y x = false)
theorem cheap_mem {kinds : List K3} {qs : List P2} (h : IsCheap kinds qs) {q : P2} (hq : q ∈ qs) : ∃ j : Nat, j < kinds.length ∧ q = ((kAt kinds j).2.1, (j : Int)) := by
  obtain ⟨j, hj⟩ := List.mem_iff_getElem?.mp (h.1.mem_iff.mp hq)
  rw [List.getElem?_mapIdx] at hj
  cases e : kinds[j]? with
  | none => rw [e] at hj; cases hj
  | some x =>
    rw [e] at hj
    exact ⟨j, (List.getElem?_eq_some_iff.mp e).1, by rw [kAt_of e]; exact (Option.some.inj hj).symm⟩
theorem mem_cheap {kinds : List K3} {qs : List P2} (h : IsCheap kinds qs) {j : Nat} (hj : j < kinds.length) : ((kAt kinds j).2.1, (j : Int)) ∈ qs := by
  refine h.1.mem_iff.mpr (List.mem_iff_getElem?.mpr ⟨j, ?_⟩)
  rw [List.getElem?_mapIdx, kAt_get hj]; rfl
theorem cheap_nd {kinds : List K3} {qs : List P2} (h : IsCheap kinds qs) : (qs.map (·.2)).Nodup := by
  have e : (kinds.mapIdx fun i x => (x.2.1, (i : Int))).map (·.2) = (List.range kinds.length).map fun (i : Nat) => (i : Int) := by
    apply List.ext_getElem?
    intro i
    rw [List.getElem?_map, List.getElem?_mapIdx, List.getElem?_map]
    by_cases hi : i < kinds.length
    · rw [List.getElem?_eq_getElem hi, List.getElem?_range hi]; rfl
    · rw [List.getElem?_eq_none_iff.mpr (by omega), List.getElem?_eq_none_iff.mpr (by rw [List.length_range]; omega)]; rfl
  have z := h.1.map (·.2)
  rw [e] at z
  refine z.nodup_iff.mpr ?_
  exact List.pairwise_map.mpr ((List.nodup_range (n := kinds.length)).imp fun {a b} h q => h (by omega))
/-! pieces -/
theorem pcs_nil {am : List Int} {k : Int} : pcs [] am k = 0 := rfl
theorem pcs_cons {x : K3} {kinds : List K3} {a : Int} {am : List Int} {k : Int} : pcs (x :: kinds) (a :: am) k = (if x.1 ≤ k then a else 0) + pcs kinds am k := by
  unfold pcs
  rw [List.zip_cons_cons, List.filter_cons]
  by_cases h : x.1 ≤ k
  · simp [h]
  · simp [h]
theorem pcs_set : ∀ {kinds : List K3} {am : List Int} {k : Int} {i : Nat} {v : Int}, am.length = kinds.length → i < am.length → pcs kinds (am.set i v) k = pcs kinds am k + (if (kAt kinds i).1 ≤ k then v - aAt am i else 0)
  | [], am, k, i, v, hl, hi => by simp at hl; subst hl; simp at hi
  | x :: kinds, [], k, i, v, hl, hi => by simp at hi
  | x :: kinds, a :: am, k, 0, v, hl, hi => by
    rw [List.set_cons_zero, pcs_cons, pcs_cons]
    show _ = _ + if x.1 ≤ k then v - a else 0
    by_cases h : x.1 ≤ k <;> simp [h] <;> omega
  | x :: kinds, a :: am, k, i + 1, v, hl, hi => by
    rw [List.set_cons_succ, pcs_cons, pcs_cons, pcs_set (by simpa using hl) (by simpa using hi)]
    show _ = _ + if (kAt kinds i).1 ≤ k then v - aAt am i else 0
    omega
/-- what stays true of the amounts -/
structure AmOk (kinds : List K3) (am : List Int) : Prop where
  len : am.length = kinds.length
  lo : ∀ i, i < kinds.length → 0 ≤ aAt am i
  hi : ∀ i, i < kinds.length → aAt am i ≤ (kAt kinds i).2.2
structure StOk (kinds : List K3) (k : Nat) (am0 : List Int) (l : Int) (s : List Int × Int) : Prop extends AmOk kinds s.1 where
  sum : pcs kinds s.1 k + s.2 = l
  pos : l - pcs kinds am0 k > 0 → 0 ≤ s.2
  same : ¬ (l - pcs kinds am0 k > 0) → s = (am0, l - pcs kinds am0 k)
  idx : ∀ i, i < kinds.length → aAt s.1 i ≠ aAt am0 i → (kAt kinds i).1 ≤ k
theorem sStep_ok {kinds : List K3} {k : Nat} {am0 : List Int} {l : Int} {s : List Int × Int} {j : Nat} {p : Int} (h : StOk kinds k am0 l s) (hj : j < kinds.length) : StOk kinds k am0 l (sStep kinds k s (p, (j : Int))) := by
  unfold sStep
  simp only [Int.toNat_natCast]
  split
  · rename_i c
    obtain ⟨c1, c2⟩ := c
    have hm0 : l - pcs kinds am0 k > 0 := by
      by_cases z : l - pcs kinds am0 k > 0
      · exact z
      · have := h.same z
        rw [this] at c1
        exact absurd c1 z
    have lo := h.lo j hj
    have hi := h.hi j hj
    have m0 : 0 ≤ mn s.2 ((kAt kinds j).2.2 - aAt s.1 j) := by unfold mn; split <;> omega
    have m1 : mn s.2 ((kAt kinds j).2.2 - aAt s.1 j) ≤ s.2 := by unfold mn; split <;> omega
    have m2 : mn s.2 ((kAt kinds j).2.2 - aAt s.1 j) ≤ (kAt kinds j).2.2 - aAt s.1 j := by unfold mn; split <;> omega
    have jl : j < s.1.length := by rw [h.len]; exact hj
    refine ⟨⟨by rw [List.length_set]; exact h.len, fun i hi' => ?_, fun i hi' => ?_⟩, ?_, fun _ => by show 0 ≤ s.2 - _; omega, fun z => absurd hm0 z, fun i hi' ne => ?_⟩
    · show 0 ≤ aAt (s.1.set j _) i
      rw [aAt_set jl]
      split
      · omega
      · exact h.lo i hi'
    · show aAt (s.1.set j _) i ≤ _
      rw [aAt_set jl]
      split
      · rename_i e; subst e; omega
      · exact h.hi i hi'
    · show pcs kinds (s.1.set j _) k + (s.2 - _) = l
      rw [pcs_set h.len jl, if_pos c2]
      have := h.sum
      omega
    · have ne : aAt (s.1.set j (aAt s.1 j + mn s.2 ((kAt kinds j).2.2 - aAt s.1 j))) i ≠ aAt am0 i := ne
      rw [aAt_set jl] at ne
      split at ne
      · rename_i e; subst e; exact c2
      · exact h.idx i hi' ne
  · exact h
theorem scan_ok {kinds : List K3} {k : Nat} {am0 : List Int} {l : Int} : ∀ {qs : List P2} {s : List Int × Int}, (∀ q ∈ qs, ∃ j : Nat, j < kinds.length ∧ q = ((kAt kinds j).2.1, (j : Int))) → StOk kinds k am0 l s → StOk kinds k am0 l (scan kinds k qs s)
  | [], s, _, h => h
  | q :: qs, s, hq, h => by
    obtain ⟨j, hj, rfl⟩ := hq q List.mem_cons_self
    exact scan_ok (qs := qs) (fun z hz => hq z (List.mem_cons_of_mem _ hz)) (sStep_ok h hj)
theorem st_start {kinds : List K3} {k : Nat} {am : List Int} {l : Int} (h : AmOk kinds am) : StOk kinds k am l (am, l - pcs kinds am k) :=
  ⟨h, by show pcs kinds am k + (l - pcs kinds am k) = l; omega, fun z => by show 0 ≤ l - pcs kinds am k; omega, fun _ => rfl, fun i _ z => absurd rfl z⟩
/-- behind k levels -/
structure LvOk (lacks : List Int) (kinds : List K3) (k : Nat) (am : List Int) : Prop extends AmOk kinds am where
  tight : ∀ i, i < kinds.length → aAt am i > 0 → ∃ m : Nat, (kAt kinds i).1 ≤ m ∧ m < k ∧ ∀ l, lacks[m]? = some l → pcs kinds am m = l
theorem lv_step {lacks : List Int} {kinds : List K3} {qs : List P2} {k : Nat} {am : List Int} {l : Int} (h : LvOk lacks kinds k am) (hq : IsCheap kinds qs) (hl : lacks[k]? = some l) (hm : ¬ (scan kinds k qs (am, l - pcs kinds am k)).2 > 0) :
    LvOk lacks kinds (k + 1) (scan kinds k qs (am, l - pcs kinds am k)).1 := by
  have st := scan_ok (fun q hq' => cheap_mem hq hq') (st_start (k := k) (l := l) h.toAmOk)
  refine ⟨st.toAmOk, fun i hi ha => ?_⟩
  by_cases c : l - pcs kinds am k > 0
  · have p := st.pos c
    have s := st.sum
    refine ⟨k, ?_, by omega, fun l' hl' => ?_⟩
    · by_cases e : aAt (scan kinds k qs (am, l - pcs kinds am k)).1 i = aAt am i
      · rw [e] at ha
        obtain ⟨m, h1, h2, _⟩ := h.tight i hi ha
        omega
      · exact st.idx i hi e
    · rw [hl] at hl'
      cases hl'
      omega
  · rw [st.same c] at ha ⊢
    obtain ⟨m, h1, h2, h3⟩ := h.tight i hi ha
    exact ⟨m, h1, by omega, h3⟩
theorem gr_lv {lacks : List Int} {kinds : List K3} {qs : List P2} (hq : IsCheap kinds qs) : ∀ {ls : List Int} {k : Nat} {am am' : List Int}, lacks.drop k = ls → LvOk lacks kinds k am → gr kinds qs ls k am = .ok am' → LvOk lacks kinds (k + ls.length) am'
  | [], k, am, am', _, h, e => by
    rw [gr] at e
    cases e
    exact h
  | l :: ls, k, am, am', hd, h, e => by
    rw [gr] at e
    split at e
    · cases e
    · rename_i hm
      have hl : lacks[k]? = some l := by
        have z := congrArg (fun x => x[0]?) hd
        simpa using z
      have hd2 : lacks.drop (k + 1) = ls := by
        rw [← List.drop_drop, hd]; rfl
      have z := gr_lv hq hd2 (lv_step h hq hl hm) e
      rw [List.length_cons, show k + (ls.length + 1) = k + 1 + ls.length by omega]
      exact z
theorem am_zero {kinds : List K3} {n : Nat} (h : goodK n kinds) : AmOk kinds (List.replicate kinds.length 0) := by
  have z : ∀ i, aAt (List.replicate kinds.length (0 : Int)) i = 0 := fun i => by
    unfold aAt
    rw [List.getD_eq_getElem?_getD, List.getElem?_replicate]
    split <;> rfl
  refine ⟨by simp, fun i hi => by rw [z]; exact Int.le_refl _, fun i hi => ?_⟩
  rw [z]
  exact ((h.2 _ (List.mem_of_getElem? (kAt_get hi))).2.2).1
theorem lv_zero {lacks : List Int} {kinds : List K3} (h : goodK lacks.length kinds) : LvOk lacks kinds 0 (List.replicate kinds.length 0) := by
  refine ⟨am_zero h, fun i hi ha => ?_⟩
  exfalso
  have z : aAt (List.replicate kinds.length (0 : Int)) i = 0 := by
    unfold aAt
    rw [List.getD_eq_getElem?_getD, List.getElem?_replicate]
    split <;> rfl
  omega
/-- there is a tight level for each kind that is bought -/
theorem last_lt {lacks : List Int} {kinds : List K3} {am : List Int} (hg : goodK lacks.length kinds) (h : LvOk lacks kinds lacks.length am) : ∀ x ∈ kinds.zip am, 0 ≤ x.1.1 ∧ (x.2 > 0 → lastN (tightL lacks kinds am) x.1.1.toNat < lacks.length) := by
  intro x hx
  obtain ⟨i, hi⟩ := List.mem_iff_getElem?.mp hx
  obtain ⟨h1, h2⟩ := List.getElem?_zip_eq_some.mp hi
  have g := hg.2 _ (List.mem_of_getElem? h1)
  refine ⟨g.1.1, fun hp => ?_⟩
  have il := (List.getElem?_eq_some_iff.mp h1).1
  obtain ⟨m, m1, m2, m3⟩ := h.tight i il (by rw [aAt_of h2]; exact hp)
  rw [kAt_of h1] at m1
  have hm : lacks[m]? = some lacks[m] := List.getElem?_eq_getElem m2
  have tg := tight_get (kinds := kinds) (am := am) hm
  rw [m3 _ hm, decide_eq_true rfl] at tg
  rcases Nat.lt_or_ge (lastN (tightL lacks kinds am) x.1.1.toNat) lacks.length with z | z
  · exact z
  · have no := last_no (tl := tightL lacks kinds am) (j := x.1.1.toNat) (i := m) (by omega) (by omega) (by rw [tight_len]; exact m2)
    rw [no] at tg
    cases tg
/-! ### the answer -/
def pricesF (f : List Int) (n : Nat) : List Int := (List.range n).map fun k => f.getD k 0 - f.getD (k + 1) 0
def rentsF (f : List Int) (kinds : List K3) : List Int := kinds.map fun x => mx 0 (f.getD x.1.toNat 0 - x.2.1)
def fF (lacks : List Int) (kinds : List K3) (am : List Int) : List Int := foundF (tightL lacks kinds am) lacks.length (kinds.zip am)
def okT (lacks : List Int) (kinds : List K3) (am : List Int) : T := .tup [Li am, Li (pricesF (fF lacks kinds am) lacks.length), Li (rentsF (fF lacks kinds am) kinds)]
def ansT (lacks : List Int) (kinds : List K3) : Except Nat (List Int) → T
  | .error k => .tup [.non, .int k]
  | .ok am => okT lacks kinds am
def stockT (qs : List P2) (lacks : List Int) (kinds : List K3) : T := ansT lacks kinds (gr kinds qs lacks 0 (List.replicate kinds.length 0))
end K89
set_option Elab.async false
set_option linter.all false
set_option maxRecDepth 100000
namespace K89
open PySem PySem.Spec PyProof.Rows L2 L2H TL
section
variable {P : Program} {w : World} {K : PySem.W.Frag} {mg : Str → Option Value} {base : Heap}
def W_least_stock (G : Gs K mg) : FnX := fun ts R Xr => ∃ (lacks : List Int) (kinds : List K3), ts = [Li lacks, Lk kinds] ∧ lacks.length ≤ 1000 ∧
  (goodK lacks.length kinds → ∀ qs, IsCheap kinds qs → R 2 (stockT qs lacks kinds)) ∧ (¬ goodK lacks.length kinds → Xr (badK G))
theorem cheapE_get {kinds : List K3} {i : Nat} {x : K3} (h : kinds[i]? = some x) : (kinds.mapIdx fun i x => (x.2.1, (i : Int)))[i]? = some (x.2.1, (i : Int)) := by
  rw [List.getElem?_mapIdx, h]; rfl
theorem pr_snoc {xs : List P2} {i : Nat} {x : P2} (h : xs[i]? = some x) : (xs.take i).map pr ++ [pr x] = (xs.take (i + 1)).map pr := by rw [← take_snoc h, List.map_append]; rfl
theorem mappr_get {xs : List P2} {i : Nat} {t : T} : (xs.map pr)[i]? = some t ↔ ∃ x, xs[i]? = some x ∧ t = pr x := by
  rw [List.getElem?_map]
  cases xs[i]? with
  | none => simp
  | some x => simp [eq_comm]
theorem gIx_k {kinds : List K3} {j : Nat} {R : T → Prop} (h : j < kinds.length) (hR : R (tr3 (kAt kinds j))) : gIx (Lk kinds) (.int (j : Nat)) R :=
  gIx_lst (by rw [List.getElem?_map, kAt_get h]; rfl) hR
theorem gIx_a {am : List Int} {j : Nat} {R : T → Prop} (h : j < am.length) (hR : R (.int (aAt am j))) : gIx (Li am) (.int (j : Nat)) R :=
  gIx_lst (by rw [List.getElem?_map, aAt_get h]; rfl) hR
theorem flatAt_Li {xs : List Int} : (Li xs).flatAt 1 = true := by
  show T.flatAts _ 0 = true
  exact flats_ints xs
set_option maxHeartbeats 4000000 in
theorem ok_least_stock {k : Nat} (G : Gs K mg) : FnOk P w K mg base (L2N.CX P w) (k + 4) G.g_least_stock.f G.g_least_stock.d ["lacks", "kinds"] (spTX K 2 (W_least_stock G)) := by
  refine fnTX (k := k + 3) G.g_least_stock.F sc_least_stock rfl (fun X cdv A outer s H E hX hr => ?_)
  subst hX
  refine ⟨_, (ts_cons (ts_exprX (tvx_call (L2N.takes_of rfl rfl rfl rfl) (ok_check_kinds (k := k + 0) G) hr (by rfl) G.g_check_kinds.g G.g_check_kinds.F.kp G.g_check_kinds.b (tva_cons 0 (tv_var 0) (tva_cons 0 (tv_var 1) tva_nil))))
      (ts_cons (ts_set 2 sc_least_stock.nd rfl (.inl rfl) (tv_rep (tp_lst (tpa_cons tp_int tpa_nil)) (tp_callB call_len_seq caT_len (by rfl) G.z_len PySem.boot_len (tpa_cons (tp_var 1) tpa_nil))))
      (ts_cons (ts_set 3 sc_least_stock.nd rfl (.inl rfl) (tv_sortP (by rfl) G.z_sorted (tva_cons 1 (tv_lc (own := [("at", 11), ("kind", 12)]) 0 [11, 12] rfl sc_least_stock.nd (ti_enum (by rfl) G.z_enumerate (tva_cons 0 (tv_var 1) tva_nil)) (blkOk_by (N := ["lacks", "kinds", "amounts", "cheapest", "told", "prices", "rents", "k", "lack", "missing", "_", "at", "kind", "more"]) (sc := defScope s_least_stock) (by decide +kernel)) (fun _ _ _ _ _ => (tg_tup rfl (tgs_cons (tg_name 11 sc_least_stock.nd rfl (.inl rfl)) (tgs_cons (tg_name 12 sc_least_stock.nd rfl (.inl rfl)) tgs_nil)) h2_len)) (fun _ _ _ _ _ => tvts_nil) (fun _ _ _ _ _ => (tv_sh (tp_tup (tpa_cons (tp_ix (tp_var 12) tp_int (fun _ _ => rfl)) (tpa_cons (tp_var 11) tpa_nil))))) (by decide)) tva_nil)))
      (ts_cons (ts1_dem [3] (ts_for (L2.passes_of rfl) rfl (ti_enum (by rfl) G.z_enumerate (tva_cons 0 (tv_var 0) tva_nil)) (tg_tup rfl (tgs_cons (tg_name 7 sc_least_stock.nd rfl (.inl rfl)) (tgs_cons (tg_name 8 sc_least_stock.nd rfl (.inl rfl)) tgs_nil)) h2_len) (ts_cons (ts_set 9 sc_least_stock.nd rfl (.inl rfl) (tv_p (tp_op op_sub opT_int (tp_var 8) (tp_call (ok_pieces_up_to (k := k + 2) G) hr (by rfl) G.g_pieces_up_to.g G.g_pieces_up_to.F.kp G.g_pieces_up_to.b (tpa_cons (tp_var 1) (tpa_cons (tp_var 2) (tpa_cons (tp_var 7) tpa_nil)))))))
      (ts_cons (ts_for (L2.passes_of rfl) rfl (ti_lst (tv_var 3)) (tg_tup rfl (tgs_cons (tg_name 10 sc_least_stock.nd rfl (.inl rfl)) (tgs_cons (tg_name 11 sc_least_stock.nd rfl (.inl rfl)) tgs_nil)) h2_len) (ts_one (ts_if (tvt_p (TPW.pt (tpw_and (tpt_cmp op_gt opT_bl (tp_var 9) tp_int (nomark _)) (tpw_and1 (tpt_cmp op_le opT_bl (tp_ix (tp_ix (tp_var 1) (tp_var 11) (fun _ _ => rfl)) tp_int (fun _ _ => rfl)) (tp_var 7) (nomark _)))))) (ts_cons (ts_set 13 sc_least_stock.nd rfl (.inl rfl) (tv_p (tp_callB (call_min2 rfl) caT_ii (by rfl) G.z_min (by decide +kernel) (tpa_cons (tp_var 9) (tpa_cons (tp_op op_sub opT_int (tp_ix (tp_ix (tp_var 1) (tp_var 11) (fun _ _ => rfl)) tp_int (fun _ _ => rfl)) (tp_ix (tp_var 2) (tp_var 11) (fun _ _ => rfl))) tpa_nil)))))
      (ts_cons (ts_aug 2 ip_add (tp_var 11) (tp_var 13))
      (ts_one (ts_augN 9 ip_sub sc_least_stock.nd rfl (.inl rfl) (tv_p (tp_var 13)))))) ts_nil)))
      (ts_one (ts_if (tvt_p (tpt_cmp op_gt opT_bl (tp_var 9) tp_int (nomark _))) (ts_one (ts_ret (tv_tup 1 (tva_cons 1 (tv_p tp_non) (tva_cons 1 (tv_p (tp_var 7)) tva_nil)) (by simp) (by decide)))) ts_nil))))))
      (ts_cons (ts_set 4 sc_least_stock.nd rfl (.inr rfl) (tv_callN (ok_worths (k := k + 1) G) hr (by rfl) G.g_worths.g G.g_worths.F.kp G.g_worths.b (tpa_cons (tp_var 0) (tpa_cons (tp_var 1) (tpa_cons (tp_var 2) tpa_nil)))))
      (ts_cons (ts_setLc (i := 5) (hc := rfl) (hN := sc_least_stock.nd) (hy := rfl) (hyl := rfl) (hsw := sw_true rfl rfl rfl (by decide +kernel)) (own := [("k", 7)]) (k := 0) (js := [7]) (hi := (ti_rng1 (by rfl) G.z_range (tp_callB call_len_seq caT_len (by rfl) G.z_len PySem.boot_len (tpa_cons (tp_var 0) tpa_nil)))) (ok := (blkOk_by (N := ["lacks", "kinds", "amounts", "cheapest", "told", "prices", "rents", "k", "lack", "missing", "_", "at", "kind", "more"]) (sc := defScope s_least_stock) (by decide +kernel))) (hg := fun _ _ _ _ _ => (tg_name 7 sc_least_stock.nd rfl (.inl rfl))) (ht := fun _ _ _ _ _ => tvts_nil) (he := fun _ _ _ _ _ => (tv_p (tp_op op_sub opT_int (tp_ix (tp_var 4) (tp_var 7) (fun _ _ => rfl)) (tp_ix (tp_var 4) (tp_op op_add opT_int (tp_var 7) tp_int) (fun _ _ => rfl))))) (hj := by decide))
      (ts_cons (ts_setLc (i := 6) (hc := rfl) (hN := sc_least_stock.nd) (hy := rfl) (hyl := rfl) (hsw := sw_true rfl rfl rfl (by decide +kernel)) (own := [("kind", 12)]) (k := 0) (js := [12]) (hi := (ti_lst (tv_var 1))) (ok := (blkOk_by (N := ["lacks", "kinds", "amounts", "cheapest", "told", "prices", "rents", "k", "lack", "missing", "_", "at", "kind", "more"]) (sc := defScope s_least_stock) (by decide +kernel))) (hg := fun _ _ _ _ _ => (tg_name 12 sc_least_stock.nd rfl (.inl rfl))) (ht := fun _ _ _ _ _ => tvts_nil) (he := fun _ _ _ _ _ => (tv_p (tp_callB (call_max2 rfl) caT_ii (by rfl) G.z_max (by decide +kernel) (tpa_cons tp_int (tpa_cons (tp_op op_sub opT_int (tp_ix (tp_var 4) (tp_ix (tp_var 12) tp_int (fun _ _ => rfl)) (fun _ _ => rfl)) (tp_ix (tp_var 12) tp_int (fun _ _ => rfl))) tpa_nil))))) (hj := by decide))
      (ts_one (ts_ret (tv_tup 1 (tva_cons 1 (tv_var 2) (tva_cons 1 (tv_var 5) (tva_cons 1 (tv_var 6) tva_nil))) (by simp) (by decide))))))))))), fun ts R Xr hW hlen => ?_⟩

  obtain ⟨lacks, kinds, rfl, hn, h1, h2⟩ := hW
  simp -dsimp only [↓uSeq, ↓uNext, ↓uFor, ↓uSt, ↓uStV, ↓uAu, ↓uAp, ↓uApMv, ↓uAuN, ↓uAlias, ↓uDem, ↓uBrk, ↓uCnt, ↓uNev, ↓uRet, ↓uRetN, ↓uExp, ↓uExpP, ↓uRaise1, ↓wCallX, ↓uExpX, ↓uRetX, ↓uSetX, ↓uTryE, ↓gLtT, ↓iRngD, ↓vSortP, ↓vCat, ↓vCatV, ↓gCat, ↓uSet, ↓uSetR, ↓uIf, ↓wVar, ↓wVarV, ↓wC, ↓w1, ↓w2, ↓wT, asB, ↓wChain, ↓wNil, ↓wCons, ↓wAnd, ↓wOr, ↓wNot, ↓wAndV, ↓wOrV, ↓wNotV, ↓wIf, ↓wCallP, ↓wCallV, ↓wCa, ↓wTup, ↓wLst, ↓oNon, ↓oSom, ↓wSlice, ↓wRev, ↓vP, ↓vSh, ↓vFit, ↓vaNil, ↓vaCons, ↓vLst, ↓vTup, ↓vTup0, ↓vList, ↓vRep, ↓vSlice, ↓cSl, ↓vCallN, ↓v1, ↓vCa, ↓vIx, ↓tP, ↓vAnd, ↓vOr, ↓vNot, ↓vIf, ↓vT, ↓v2, ↓vLc, ↓gI2, ↓gI2c, ↓gLen, ↓gII, ↓gI, ↓gInt1, ↓gRep, ↓gKids, ↓gIn, ↓iLst, ↓TL.iTup, ↓TL.iRng1, ↓TL.iRng2, ↓iEn, ↓iZp, ↓hName, ↓hCons, ↓hNil, ↓hTup, ↓wSl, ↓wIsi, ↓wYes, rho0, iniE, entOf, allSh, List.replicate, List.length_cons, List.length_nil, Nat.reduceAdd, Nat.reduceSub, Nat.reduceLT, Nat.reduceLeDiff, List.cons_append, List.nil_append, List.getElem?_cons_zero, List.getElem?_cons_succ, Option.bind_some, Ent.tr, Ent.own, Ent.put, setE, killA, noAl_ow, noAl_io1, noAl_no, noAl_ro, noAl_al', killJ_cons, killJ_nil0, noRo_ow, noRo_io, noRo_no, noRo_al, mem1, notIn, noRA_ow, noRA_io, noRA_no, noRA_al, Plc, demE, List.foldl_cons, List.foldl_nil, List.map_cons, List.map_nil, List.set_cons_zero, List.set_cons_succ, endsOf, ↓outsOf, Option.map_some, plSet, TL.putAt, T.put, true_and, and_true, lst_set, lst_snoc, lm_set, lm_snoc, shOnly, shE_ow0, shE_ow1, shE_io, shE_no, Option.isSome_some, reduceIte, if_true, if_false, Bool.false_eq_true, Nat.reduceEqDiff]
  refine ⟨fit0, fit0, lacks, kinds, rfl, fun hg => ?_, h2⟩
  have hk := hg.1
  replace h1 := h1 hg
  have e : ((↑(List.map tr3 kinds).length : Int)).toNat = kinds.length := by rw [List.length_map]; omega
  rw [e, zeros_flat, List.length_map]
  refine ⟨by omega, by omega, by omega, flats_ints _, fit0, ?_⟩
  generalize hE : (kinds.mapIdx fun i x => (x.2.1, (i : Int))) = E at *
  have hEl : E.length = kinds.length := by rw [← hE]; simp
  refine ⟨fun i acc ρ => acc = (E.take i).map pr ∧ ρ = [Ent.ow 0 (Li lacks), Ent.ow 0 (Lk kinds), Ent.ow 1 (Li (List.replicate kinds.length 0)), Ent.no, Ent.no, Ent.no, Ent.no, Ent.no, Ent.no, Ent.no, Ent.no, Ent.no, Ent.no, Ent.no], ⟨rfl, rfl⟩, fun i t acc ρ hi hI => ?_, fun acc ρ hI => ?_⟩
  · obtain ⟨rfl, rfl⟩ := hI
    obtain ⟨u, hu, rfl⟩ := enT_get.mp hi
    obtain ⟨x, hx, rfl⟩ := mapk_get.mp hu
    have hm := cheapE_get hx
    rw [hE] at hm
    simp -dsimp only [g31, ↓uSeq, ↓uNext, ↓uFor, ↓uSt, ↓uStV, ↓uAu, ↓uAp, ↓uApMv, ↓uAuN, ↓uAlias, ↓uDem, ↓uBrk, ↓uCnt, ↓uNev, ↓uRet, ↓uRetN, ↓uExp, ↓uExpP, ↓uRaise1, ↓wCallX, ↓uExpX, ↓uRetX, ↓uSetX, ↓uTryE, ↓gLtT, ↓iRngD, ↓vSortP, ↓vCat, ↓vCatV, ↓gCat, ↓uSet, ↓uSetR, ↓uIf, ↓wVar, ↓wVarV, ↓wC, ↓w1, ↓w2, ↓wT, asB, ↓wChain, ↓wNil, ↓wCons, ↓wAnd, ↓wOr, ↓wNot, ↓wAndV, ↓wOrV, ↓wNotV, ↓wIf, ↓wCallP, ↓wCallV, ↓wCa, ↓wTup, ↓wLst, ↓oNon, ↓oSom, ↓wSlice, ↓wRev, ↓vP, ↓vSh, ↓vFit, ↓vaNil, ↓vaCons, ↓vLst, ↓vTup, ↓vTup0, ↓vList, ↓vRep, ↓vSlice, ↓cSl, ↓vCallN, ↓v1, ↓vCa, ↓vIx, ↓tP, ↓vAnd, ↓vOr, ↓vNot, ↓vIf, ↓vT, ↓v2, ↓vLc, ↓gI2, ↓gI2c, ↓gLen, ↓gII, ↓gI, ↓gInt1, ↓gRep, ↓gKids, ↓gIn, ↓iLst, ↓TL.iTup, ↓TL.iRng1, ↓TL.iRng2, ↓iEn, ↓iZp, ↓hName, ↓hCons, ↓hNil, ↓hTup, ↓wSl, ↓wIsi, ↓wYes, rho0, iniE, entOf, allSh, List.replicate, List.length_cons, List.length_nil, Nat.reduceAdd, Nat.reduceSub, Nat.reduceLT, Nat.reduceLeDiff, List.cons_append, List.nil_append, List.getElem?_cons_zero, List.getElem?_cons_succ, Option.bind_some, Ent.tr, Ent.own, Ent.put, setE, killA, noAl_ow, noAl_io1, noAl_no, noAl_ro, noAl_al', killJ_cons, killJ_nil0, noRo_ow, noRo_io, noRo_no, noRo_al, mem1, notIn, noRA_ow, noRA_io, noRA_no, noRA_al, Plc, demE, List.foldl_cons, List.foldl_nil, List.map_cons, List.map_nil, List.set_cons_zero, List.set_cons_succ, endsOf, ↓outsOf, Option.map_some, plSet, TL.putAt, T.put, true_and, and_true, lst_set, lst_snoc, lm_set, lm_snoc, shOnly, shE_ow0, shE_ow1, shE_io, shE_no, Option.isSome_some, reduceIte, if_true, if_false, Bool.false_eq_true, Nat.reduceEqDiff]
    refine ⟨fit0, ?_, ?_⟩
    · have := (List.getElem?_eq_some_iff.mp hx).1
      rw [List.length_map, List.length_take]; omega
    · exact pr_snoc hm
  obtain ⟨rfl, rfl⟩ := hI
  have el : (enT (List.map tr3 kinds)).length = E.length := by unfold enT; rw [List.length_mapIdx, List.length_map, hEl]
  rw [el, take_len]
  refine ⟨.inl (Nat.le_refl _), E, rfl, fun qs hq1 hq2 => ?_⟩
  have hq : IsCheap kinds qs := ⟨by rw [hE]; exact hq1, hq2⟩
  replace h1 := h1 qs hq
  clear hq1 hq2
  simp -dsimp only [↓uSeq, ↓uNext, ↓uFor, ↓uSt, ↓uStV, ↓uAu, ↓uAp, ↓uApMv, ↓uAuN, ↓uAlias, ↓uDem, ↓uBrk, ↓uCnt, ↓uNev, ↓uRet, ↓uRetN, ↓uExp, ↓uExpP, ↓uRaise1, ↓wCallX, ↓uExpX, ↓uRetX, ↓uSetX, ↓uTryE, ↓gLtT, ↓iRngD, ↓vSortP, ↓vCat, ↓vCatV, ↓gCat, ↓uSet, ↓uSetR, ↓uIf, ↓wVar, ↓wVarV, ↓wC, ↓w1, ↓w2, ↓wT, asB, ↓wChain, ↓wNil, ↓wCons, ↓wAnd, ↓wOr, ↓wNot, ↓wAndV, ↓wOrV, ↓wNotV, ↓wIf, ↓wCallP, ↓wCallV, ↓wCa, ↓wTup, ↓wLst, ↓oNon, ↓oSom, ↓wSlice, ↓wRev, ↓vP, ↓vSh, ↓vFit, ↓vaNil, ↓vaCons, ↓vLst, ↓vTup, ↓vTup0, ↓vList, ↓vRep, ↓vSlice, ↓cSl, ↓vCallN, ↓v1, ↓vCa, ↓vIx, ↓tP, ↓vAnd, ↓vOr, ↓vNot, ↓vIf, ↓vT, ↓v2, ↓vLc, ↓gI2, ↓gI2c, ↓gLen, ↓gII, ↓gI, ↓gInt1, ↓gRep, ↓gKids, ↓gIn, ↓iLst, ↓TL.iTup, ↓TL.iRng1, ↓TL.iRng2, ↓iEn, ↓iZp, ↓hName, ↓hCons, ↓hNil, ↓hTup, ↓wSl, ↓wIsi, ↓wYes, rho0, iniE, entOf, allSh, List.replicate, List.length_cons, List.length_nil, Nat.reduceAdd, Nat.reduceSub, Nat.reduceLT, Nat.reduceLeDiff, List.cons_append, List.nil_append, List.getElem?_cons_zero, List.getElem?_cons_succ, Option.bind_some, Ent.tr, Ent.own, Ent.put, setE, killA, noAl_ow, noAl_io1, noAl_no, noAl_ro, noAl_al', killJ_cons, killJ_nil0, noRo_ow, noRo_io, noRo_no, noRo_al, mem1, notIn, noRA_ow, noRA_io, noRA_no, noRA_al, Plc, demE, List.foldl_cons, List.foldl_nil, List.map_cons, List.map_nil, List.set_cons_zero, List.set_cons_succ, endsOf, ↓outsOf, Option.map_some, plSet, TL.putAt, T.put, true_and, and_true, lst_set, lst_snoc, lm_set, lm_snoc, shOnly, shE_ow0, shE_ow1, shE_io, shE_no, Option.isSome_some, reduceIte, if_true, if_false, Bool.false_eq_true, Nat.reduceEqDiff]
  refine ⟨fit0, fun i ρ => ∃ (am : List Int) (x7 x8 x9 x10 x11 x13 : Ent), ρ = [Ent.ow 0 (Li lacks), Ent.ow 0 (Lk kinds), Ent.ow 1 (Li am), Ent.ow 0 (.lst (qs.map pr)), Ent.no, Ent.no, Ent.no, x7, x8, x9, x10, x11, Ent.no, x13] ∧ LvOk lacks kinds i am ∧ stockT qs lacks kinds = ansT lacks kinds (gr kinds qs (lacks.drop i) i am),
    ⟨_, _, _, _, _, _, _, rfl, lv_zero hg, rfl⟩, fun i t ρ hi hI => ?_, fun ρ hI => ?_⟩
  · obtain ⟨am, x7, x8, x9, x10, x11, x13, rfl, hlv, hst⟩ := hI
    obtain ⟨u, hu, rfl⟩ := enT_get.mp hi
    obtain ⟨l, hx, rfl⟩ := mapint_get.mp hu
    simp -dsimp only [↓uSeq, ↓uNext, ↓uFor, ↓uSt, ↓uStV, ↓uAu, ↓uAp, ↓uApMv, ↓uAuN, ↓uAlias, ↓uDem, ↓uBrk, ↓uCnt, ↓uNev, ↓uRet, ↓uRetN, ↓uExp, ↓uExpP, ↓uRaise1, ↓wCallX, ↓uExpX, ↓uRetX, ↓uSetX, ↓uTryE, ↓gLtT, ↓iRngD, ↓vSortP, ↓vCat, ↓vCatV, ↓gCat, ↓uSet, ↓uSetR, ↓uIf, ↓wVar, ↓wVarV, ↓wC, ↓w1, ↓w2, ↓wT, asB, ↓wChain, ↓wNil, ↓wCons, ↓wAnd, ↓wOr, ↓wNot, ↓wAndV, ↓wOrV, ↓wNotV, ↓wIf, ↓wCallP, ↓wCallV, ↓wCa, ↓wTup, ↓wLst, ↓oNon, ↓oSom, ↓wSlice, ↓wRev, ↓vP, ↓vSh, ↓vFit, ↓vaNil, ↓vaCons, ↓vLst, ↓vTup, ↓vTup0, ↓vList, ↓vRep, ↓vSlice, ↓cSl, ↓vCallN, ↓v1, ↓vCa, ↓vIx, ↓tP, ↓vAnd, ↓vOr, ↓vNot, ↓vIf, ↓vT, ↓v2, ↓vLc, ↓gI2, ↓gI2c, ↓gLen, ↓gII, ↓gI, ↓gInt1, ↓gRep, ↓gKids, ↓gIn, ↓iLst, ↓TL.iTup, ↓TL.iRng1, ↓TL.iRng2, ↓iEn, ↓iZp, ↓hName, ↓hCons, ↓hNil, ↓hTup, ↓wSl, ↓wIsi, ↓wYes, rho0, iniE, entOf, allSh, List.replicate, List.length_cons, List.length_nil, Nat.reduceAdd, Nat.reduceSub, Nat.reduceLT, Nat.reduceLeDiff, List.cons_append, List.nil_append, List.getElem?_cons_zero, List.getElem?_cons_succ, Option.bind_some, Ent.tr, Ent.own, Ent.put, setE, killA, noAl_ow, noAl_io1, noAl_no, noAl_ro, noAl_al', killJ_cons, killJ_nil0, noRo_ow, noRo_io, noRo_no, noRo_al, mem1, notIn, noRA_ow, noRA_io, noRA_no, noRA_al, Plc, demE, List.foldl_cons, List.foldl_nil, List.map_cons, List.map_nil, List.set_cons_zero, List.set_cons_succ, endsOf, ↓outsOf, Option.map_some, plSet, TL.putAt, T.put, true_and, and_true, lst_set, lst_snoc, lm_set, lm_snoc, shOnly, shE_ow0, shE_ow1, shE_io, shE_no, Option.isSome_some, reduceIte, if_true, if_false, Bool.false_eq_true, Nat.reduceEqDiff]
    have hil := (List.getElem?_eq_some_iff.mp hx).1
    refine ⟨kinds, am, _, rfl, by omega, hlv.len, rfl, ?_⟩
    have hd : lacks.drop i = l :: lacks.drop (i + 1) := by
      rw [List.drop_eq_getElem_cons hil, List.getElem?_eq_getElem hil] at *
      rw [Option.some.inj hx]
    rw [hd, gr] at hst
    generalize hs0 : (am, l - pcs kinds am i) = s0 at hst
    refine ⟨fun j ρ => ∃ (am2 : List Int) (m2 : Int) (x10 x11 x13 : Ent), ρ = [Ent.ow 0 (Li lacks), Ent.ow 0 (Lk kinds), Ent.ow 1 (Li am2), Ent.ow 0 (.lst (qs.map pr)), Ent.no, Ent.no, Ent.no, Ent.ow 0 (.int i), Ent.ow 0 (.int l), Ent.ow 0 (.int m2), x10, x11, Ent.no, x13] ∧ scan kinds i (qs.take j) s0 = (am2, m2) ∧ am2.length = kinds.length,
      ⟨am, _, _, _, _, rfl, by subst hs0; rfl, hlv.len⟩, fun j t ρ hj hI => ?_, fun ρ hI => ?_⟩
    · obtain ⟨am2, m2, x10, x11, x13, rfl, hsc, hal⟩ := hI
      obtain ⟨q, hq', rfl⟩ := mappr_get.mp hj
      obtain ⟨a, ha, rfl⟩ := cheap_mem hq (List.mem_of_getElem? hq')
      have stp : scan kinds i (qs.take (j + 1)) s0 = sStep kinds i (am2, m2) ((kAt kinds a).2.1, (a : Int)) := by
        unfold scan
        rw [foldl_take hq']
        show sStep kinds i (scan kinds i (qs.take j) s0) _ = _
        rw [hsc]
      unfold sStep at stp
      simp only [Int.toNat_natCast] at stp
      have hal2 : a < am2.length := by rw [hal]; exact ha
      simp -dsimp only [↓uSeq, ↓uNext, ↓uFor, ↓uSt, ↓uStV, ↓uAu, ↓uAp, ↓uApMv, ↓uAuN, ↓uAlias, ↓uDem, ↓uBrk, ↓uCnt, ↓uNev, ↓uRet, ↓uRetN, ↓uExp, ↓uExpP, ↓uRaise1, ↓wCallX, ↓uExpX, ↓uRetX, ↓uSetX, ↓uTryE, ↓gLtT, ↓iRngD, ↓vSortP, ↓vCat, ↓vCatV, ↓gCat, ↓uSet, ↓uSetR, ↓uIf, ↓wVar, ↓wVarV, ↓wC, ↓w1, ↓w2, ↓wT, asB, ↓wChain, ↓wNil, ↓wCons, ↓wAnd, ↓wOr, ↓wNot, ↓wAndV, ↓wOrV, ↓wNotV, ↓wIf, ↓wCallP, ↓wCallV, ↓wCa, ↓wTup, ↓wLst, ↓oNon, ↓oSom, ↓wSlice, ↓wRev, ↓vP, ↓vSh, ↓vFit, ↓vaNil, ↓vaCons, ↓vLst, ↓vTup, ↓vTup0, ↓vList, ↓vRep, ↓vSlice, ↓cSl, ↓vCallN, ↓v1, ↓vCa, ↓vIx, ↓tP, ↓vAnd, ↓vOr, ↓vNot, ↓vIf, ↓vT, ↓v2, ↓vLc, ↓gI2, ↓gI2c, ↓gLen, ↓gII, ↓gI, ↓gInt1, ↓gRep, ↓gKids, ↓gIn, ↓iLst, ↓TL.iTup, ↓TL.iRng1, ↓TL.iRng2, ↓iEn, ↓iZp, ↓hName, ↓hCons, ↓hNil, ↓hTup, ↓wSl, ↓wIsi, ↓wYes, rho0, iniE, entOf, allSh, List.replicate, List.length_cons, List.length_nil, Nat.reduceAdd, Nat.reduceSub, Nat.reduceLT, Nat.reduceLeDiff, List.cons_append, List.nil_append, List.getElem?_cons_zero, List.getElem?_cons_succ, Option.bind_some, Ent.tr, Ent.own, Ent.put, setE, killA, noAl_ow, noAl_io1, noAl_no, noAl_ro, noAl_al', killJ_cons, killJ_nil0, noRo_ow, noRo_io, noRo_no, noRo_al, mem1, notIn, noRA_ow, noRA_io, noRA_no, noRA_al, Plc, demE, List.foldl_cons, List.foldl_nil, List.map_cons, List.map_nil, List.set_cons_zero, List.set_cons_succ, endsOf, ↓outsOf, Option.map_some, plSet, TL.putAt, T.put, true_and, and_true, lst_set, lst_snoc, lm_set, lm_snoc, shOnly, shE_ow0, shE_ow1, shE_io, shE_no, Option.isSome_some, reduceIte, if_true, if_false, Bool.false_eq_true, Nat.reduceEqDiff]
      refine ifS (fun c1 => ?_) fun c1 => ?_
      · refine gIx_k ha ?_
        rw [g30]
        simp -dsimp only [↓uSeq, ↓uNext, ↓uFor, ↓uSt, ↓uStV, ↓uAu, ↓uAp, ↓uApMv, ↓uAuN, ↓uAlias, ↓uDem, ↓uBrk, ↓uCnt, ↓uNev, ↓uRet, ↓uRetN, ↓uExp, ↓uExpP, ↓uRaise1, ↓wCallX, ↓uExpX, ↓uRetX, ↓uSetX, ↓uTryE, ↓gLtT, ↓iRngD, ↓vSortP, ↓vCat, ↓vCatV, ↓gCat, ↓uSet, ↓uSetR, ↓uIf, ↓wVar, ↓wVarV, ↓wC, ↓w1, ↓w2, ↓wT, asB, ↓wChain, ↓wNil, ↓wCons, ↓wAnd, ↓wOr, ↓wNot, ↓wAndV, ↓wOrV, ↓wNotV, ↓wIf, ↓wCallP, ↓wCallV, ↓wCa, ↓wTup, ↓wLst, ↓oNon, ↓oSom, ↓wSlice, ↓wRev, ↓vP, ↓vSh, ↓vFit, ↓vaNil, ↓vaCons, ↓vLst, ↓vTup, ↓vTup0, ↓vList, ↓vRep, ↓vSlice, ↓cSl, ↓vCallN, ↓v1, ↓vCa, ↓vIx, ↓tP, ↓vAnd, ↓vOr, ↓vNot, ↓vIf, ↓vT, ↓v2, ↓vLc, ↓gI2, ↓gI2c, ↓gLen, ↓gII, ↓gI, ↓gInt1, ↓gRep, ↓gKids, ↓gIn, ↓iLst, ↓TL.iTup, ↓TL.iRng1, ↓TL.iRng2, ↓iEn, ↓iZp, ↓hName, ↓hCons, ↓hNil, ↓hTup, ↓wSl, ↓wIsi, ↓wYes, rho0, iniE, entOf, allSh, List.replicate, List.length_cons, List.length_nil, Nat.reduceAdd, Nat.reduceSub, Nat.reduceLT, Nat.reduceLeDiff, List.cons_append, List.nil_append, List.getElem?_cons_zero, List.getElem?_cons_succ, Option.bind_some, Ent.tr, Ent.own, Ent.put, setE, killA, noAl_ow, noAl_io1, noAl_no, noAl_ro, noAl_al', killJ_cons, killJ_nil0, noRo_ow, noRo_io, noRo_no, noRo_al, mem1, notIn, noRA_ow, noRA_io, noRA_no, noRA_al, Plc, demE, List.foldl_cons, List.foldl_nil, List.map_cons, List.map_nil, List.set_cons_zero, List.set_cons_succ, endsOf, ↓outsOf, Option.map_some, plSet, TL.putAt, T.put, true_and, and_true, lst_set, lst_snoc, lm_set, lm_snoc, shOnly, shE_ow0, shE_ow1, shE_io, shE_no, Option.isSome_some, reduceIte, if_true, if_false, Bool.false_eq_true, Nat.reduceEqDiff]
        refine ifS (fun c2 => ?_) fun c2 => ?_
        · refine gIx_k ha ?_
          rw [g32]
          refine gIx_a hal2 ?_
          simp -dsimp only [↓uSeq, ↓uNext, ↓uFor, ↓uSt, ↓uStV, ↓uAu, ↓uAp, ↓uApMv, ↓uAuN, ↓uAlias, ↓uDem, ↓uBrk, ↓uCnt, ↓uNev, ↓uRet, ↓uRetN, ↓uExp, ↓uExpP, ↓uRaise1, ↓wCallX, ↓uExpX, ↓uRetX, ↓uSetX, ↓uTryE, ↓gLtT, ↓iRngD, ↓vSortP, ↓vCat, ↓vCatV, ↓gCat, ↓uSet, ↓uSetR, ↓uIf, ↓wVar, ↓wVarV, ↓wC, ↓w1, ↓w2, ↓wT, asB, ↓wChain, ↓wNil, ↓wCons, ↓wAnd, ↓wOr, ↓wNot, ↓wAndV, ↓wOrV, ↓wNotV, ↓wIf, ↓wCallP, ↓wCallV, ↓wCa, ↓wTup, ↓wLst, ↓oNon, ↓oSom, ↓wSlice, ↓wRev, ↓vP, ↓vSh, ↓vFit, ↓vaNil, ↓vaCons, ↓vLst, ↓vTup, ↓vTup0, ↓vList, ↓vRep, ↓vSlice, ↓cSl, ↓vCallN, ↓v1, ↓vCa, ↓vIx, ↓tP, ↓vAnd, ↓vOr, ↓vNot, ↓vIf, ↓vT, ↓v2, ↓vLc, ↓gI2, ↓gI2c, ↓gLen, ↓gII, ↓gI, ↓gInt1, ↓gRep, ↓gKids, ↓gIn, ↓iLst, ↓TL.iTup, ↓TL.iRng1, ↓TL.iRng2, ↓iEn, ↓iZp, ↓hName, ↓hCons, ↓hNil, ↓hTup, ↓wSl, ↓wIsi, ↓wYes, rho0, iniE, entOf, allSh, List.replicate, List.length_cons, List.length_nil, Nat.reduceAdd, Nat.reduceSub, Nat.reduceLT, Nat.reduceLeDiff, List.cons_append, List.nil_append, List.getElem?_cons_zero, List.getElem?_cons_succ, Option.bind_some, Ent.tr, Ent.own, Ent.put, setE, killA, noAl_ow, noAl_io1, noAl_no, noAl_ro, noAl_al', killJ_cons, killJ_nil0, noRo_ow, noRo_io, noRo_no, noRo_al, mem1, notIn, noRA_ow, noRA_io, noRA_no, noRA_al, Plc, demE, List.foldl_cons, List.foldl_nil, List.map_cons, List.map_nil, List.set_cons_zero, List.set_cons_succ, endsOf, ↓outsOf, Option.map_some, plSet, TL.putAt, T.put, true_and, and_true, lst_set, lst_snoc, lm_set, lm_snoc, shOnly, shE_ow0, shE_ow1, shE_io, shE_no, Option.isSome_some, reduceIte, if_true, if_false, Bool.false_eq_true, Nat.reduceEqDiff]
          rw [if_pos ⟨of_decide_eq_true c1, of_decide_eq_true c2⟩] at stp
          have ix : ixN (List.map T.int am2).length (a : Int) = some a := ixN_nat (by rw [List.length_map]; exact hal2)
          have gt : (List.map T.int am2)[a]? = some (.int (aAt am2 a)) := by rw [List.getElem?_map, aAt_get hal2]; rfl
          refine ⟨rfl, ?_⟩
          rw [ix]
          simp only [gt]
          exact ⟨rfl, _, _, _, _, _, rfl, stp, by rw [List.length_set]; exact hal⟩
        · rw [if_neg (fun z => c2 (decide_eq_true z.2))] at stp
          exact ⟨am2, m2, _, _, _, rfl, stp, hal⟩
      · rw [if_neg (fun z => c1 (decide_eq_true z.1))] at stp
        exact ⟨am2, m2, _, _, _, rfl, stp, hal⟩
    · obtain ⟨am2, m2, x10, x11, x13, rfl, hsc, hal⟩ := hI
      rw [List.length_map, take_len] at hsc
      simp -dsimp only [↓uSeq, ↓uNext, ↓uFor, ↓uSt, ↓uStV, ↓uAu, ↓uAp, ↓uApMv, ↓uAuN, ↓uAlias, ↓uDem, ↓uBrk, ↓uCnt, ↓uNev, ↓uRet, ↓uRetN, ↓uExp, ↓uExpP, ↓uRaise1, ↓wCallX, ↓uExpX, ↓uRetX, ↓uSetX, ↓uTryE, ↓gLtT, ↓iRngD, ↓vSortP, ↓vCat, ↓vCatV, ↓gCat, ↓uSet, ↓uSetR, ↓uIf, ↓wVar, ↓wVarV, ↓wC, ↓w1, ↓w2, ↓wT, asB, ↓wChain, ↓wNil, ↓wCons, ↓wAnd, ↓wOr, ↓wNot, ↓wAndV, ↓wOrV, ↓wNotV, ↓wIf, ↓wCallP, ↓wCallV, ↓wCa, ↓wTup, ↓wLst, ↓oNon, ↓oSom, ↓wSlice, ↓wRev, ↓vP, ↓vSh, ↓vFit, ↓vaNil, ↓vaCons, ↓vLst, ↓vTup, ↓vTup0, ↓vList, ↓vRep, ↓vSlice, ↓cSl, ↓vCallN, ↓v1, ↓vCa, ↓vIx, ↓tP, ↓vAnd, ↓vOr, ↓vNot, ↓vIf, ↓vT, ↓v2, ↓vLc, ↓gI2, ↓gI2c, ↓gLen, ↓gII, ↓gI, ↓gInt1, ↓gRep, ↓gKids, ↓gIn, ↓iLst, ↓TL.iTup, ↓TL.iRng1, ↓TL.iRng2, ↓iEn, ↓iZp, ↓hName, ↓hCons, ↓hNil, ↓hTup, ↓wSl, ↓wIsi, ↓wYes, rho0, iniE, entOf, allSh, List.replicate, List.length_cons, List.length_nil, Nat.reduceAdd, Nat.reduceSub, Nat.reduceLT, Nat.reduceLeDiff, List.cons_append, List.nil_append, List.getElem?_cons_zero, List.getElem?_cons_succ, Option.bind_some, Ent.tr, Ent.own, Ent.put, setE, killA, noAl_ow, noAl_io1, noAl_no, noAl_ro, noAl_al', killJ_cons, killJ_nil0, noRo_ow, noRo_io, noRo_no, noRo_al, mem1, notIn, noRA_ow, noRA_io, noRA_no, noRA_al, Plc, demE, List.foldl_cons, List.foldl_nil, List.map_cons, List.map_nil, List.set_cons_zero, List.set_cons_succ, endsOf, ↓outsOf, Option.map_some, plSet, TL.putAt, T.put, true_and, and_true, lst_set, lst_snoc, lm_set, lm_snoc, shOnly, shE_ow0, shE_ow1, shE_io, shE_no, Option.isSome_some, reduceIte, if_true, if_false, Bool.false_eq_true, Nat.reduceEqDiff]
      rw [hsc] at hst
      have hlv2 := fun hm => lv_step (l := l) hlv hq hx hm
      rw [hs0, hsc] at hlv2
      refine ifS (fun c => ?_) fun c => ?_
      · rw [if_pos (of_decide_eq_true c)] at hst
        rw [hst] at h1
        exact ⟨rfl, .inr rfl, rfl, .inr rfl, h1⟩
      · have c2 : ¬ m2 > 0 := fun z => c (decide_eq_true z)
        rw [if_neg c2] at hst
        exact ⟨am2, _, _, _, _, _, _, rfl, hlv2 c2, hst⟩
  · obtain ⟨am, x7, x8, x9, x10, x11, x13, rfl, hlv, hst⟩ := hI
    have el2 : (enT (List.map T.int lacks)).length = lacks.length := by unfold enT; rw [List.length_mapIdx, List.length_map]
    rw [el2] at hlv hst
    rw [List.drop_eq_nil_of_le (Nat.le_refl _), gr] at hst
    simp -dsimp only [↓uSeq, ↓uNext, ↓uFor, ↓uSt, ↓uStV, ↓uAu, ↓uAp, ↓uApMv, ↓uAuN, ↓uAlias, ↓uDem, ↓uBrk, ↓uCnt, ↓uNev, ↓uRet, ↓uRetN, ↓uExp, ↓uExpP, ↓uRaise1, ↓wCallX, ↓uExpX, ↓uRetX, ↓uSetX, ↓uTryE, ↓gLtT, ↓iRngD, ↓vSortP, ↓vCat, ↓vCatV, ↓gCat, ↓uSet, ↓uSetR, ↓uIf, ↓wVar, ↓wVarV, ↓wC, ↓w1, ↓w2, ↓wT, asB, ↓wChain, ↓wNil, ↓wCons, ↓wAnd, ↓wOr, ↓wNot, ↓wAndV, ↓wOrV, ↓wNotV, ↓wIf, ↓wCallP, ↓wCallV, ↓wCa, ↓wTup, ↓wLst, ↓oNon, ↓oSom, ↓wSlice, ↓wRev, ↓vP, ↓vSh, ↓vFit, ↓vaNil, ↓vaCons, ↓vLst, ↓vTup, ↓vTup0, ↓vList, ↓vRep, ↓vSlice, ↓cSl, ↓vCallN, ↓v1, ↓vCa, ↓vIx, ↓tP, ↓vAnd, ↓vOr, ↓vNot, ↓vIf, ↓vT, ↓v2, ↓vLc, ↓gI2, ↓gI2c, ↓gLen, ↓gII, ↓gI, ↓gInt1, ↓gRep, ↓gKids, ↓gIn, ↓iLst, ↓TL.iTup, ↓TL.iRng1, ↓TL.iRng2, ↓iEn, ↓iZp, ↓hName, ↓hCons, ↓hNil, ↓hTup, ↓wSl, ↓wIsi, ↓wYes, rho0, iniE, entOf, allSh, List.replicate, List.length_cons, List.length_nil, Nat.reduceAdd, Nat.reduceSub, Nat.reduceLT, Nat.reduceLeDiff, List.cons_append, List.nil_append, List.getElem?_cons_zero, List.getElem?_cons_succ, Option.bind_some, Ent.tr, Ent.own, Ent.put, setE, killA, noAl_ow, noAl_io1, noAl_no, noAl_ro, noAl_al', killJ_cons, killJ_nil0, noRo_ow, noRo_io, noRo_no, noRo_al, mem1, notIn, noRA_ow, noRA_io, noRA_no, noRA_al, Plc, demE, List.foldl_cons, List.foldl_nil, List.map_cons, List.map_nil, List.set_cons_zero, List.set_cons_succ, endsOf, ↓outsOf, Option.map_some, plSet, TL.putAt, T.put, true_and, and_true, lst_set, lst_snoc, lm_set, lm_snoc, shOnly, shE_ow0, shE_ow1, shE_io, shE_no, Option.isSome_some, reduceIte, if_true, if_false, Bool.false_eq_true, Nat.reduceEqDiff]
    rw [hst] at h1
    have hll := last_lt hg hlv
    refine ⟨lacks, kinds, am, rfl, hn, by omega, hlv.len, hll, flatAt_Li, ?_⟩
    rw [show foundF (tightL lacks kinds am) lacks.length (kinds.zip am) = fF lacks kinds am from rfl]
    have hFl : (fF lacks kinds am).length = lacks.length + 1 := by unfold fF foundF; rw [foundF_len]; simp
    rw [List.length_map, Int.toNat_natCast]
    refine ⟨by omega, by omega, fun i acc ρ => acc = ((pricesF (fF lacks kinds am) lacks.length).take i).map T.int ∧ ∃ x7 x8 x9 x10 x11 x13, ρ = [Ent.ow 0 (Li lacks), Ent.ow 0 (Lk kinds), Ent.ow 1 (Li am), Ent.ow 0 (.lst (qs.map pr)), Ent.ow 1 (Li (fF lacks kinds am)), Ent.no, Ent.no, x7, x8, x9, x10, x11, Ent.no, x13], ⟨rfl, _, _, _, _, _, _, rfl⟩, fun i t acc ρ hi hI => ?_, fun acc ρ hI => ?_⟩
    · obtain ⟨rfl, x7, x8, x9, x10, x11, x13, rfl⟩ := hI
      obtain ⟨hlt, rfl⟩ := rgT_get.mp hi
      rw [Int.zero_add]
      simp -dsimp only [↓uSeq, ↓uNext, ↓uFor, ↓uSt, ↓uStV, ↓uAu, ↓uAp, ↓uApMv, ↓uAuN, ↓uAlias, ↓uDem, ↓uBrk, ↓uCnt, ↓uNev, ↓uRet, ↓uRetN, ↓uExp, ↓uExpP, ↓uRaise1, ↓wCallX, ↓uExpX, ↓uRetX, ↓uSetX, ↓uTryE, ↓gLtT, ↓iRngD, ↓vSortP, ↓vCat, ↓vCatV, ↓gCat, ↓uSet, ↓uSetR, ↓uIf, ↓wVar, ↓wVarV, ↓wC, ↓w1, ↓w2, ↓wT, asB, ↓wChain, ↓wNil, ↓wCons, ↓wAnd, ↓wOr, ↓wNot, ↓wAndV, ↓wOrV, ↓wNotV, ↓wIf, ↓wCallP, ↓wCallV, ↓wCa, ↓wTup, ↓wLst, ↓oNon, ↓oSom, ↓wSlice, ↓wRev, ↓vP, ↓vSh, ↓vFit, ↓vaNil, ↓vaCons, ↓vLst, ↓vTup, ↓vTup0, ↓vList, ↓vRep, ↓vSlice, ↓cSl, ↓vCallN, ↓v1, ↓vCa, ↓vIx, ↓tP, ↓vAnd, ↓vOr, ↓vNot, ↓vIf, ↓vT, ↓v2, ↓vLc, ↓gI2, ↓gI2c, ↓gLen, ↓gII, ↓gI, ↓gInt1, ↓gRep, ↓gKids, ↓gIn, ↓iLst, ↓TL.iTup, ↓TL.iRng1, ↓TL.iRng2, ↓iEn, ↓iZp, ↓hName, ↓hCons, ↓hNil, ↓hTup, ↓wSl, ↓wIsi, ↓wYes, rho0, iniE, entOf, allSh, List.replicate, List.length_cons, List.length_nil, Nat.reduceAdd, Nat.reduceSub, Nat.reduceLT, Nat.reduceLeDiff, List.cons_append, List.nil_append, List.getElem?_cons_zero, List.getElem?_cons_succ, Option.bind_some, Ent.tr, Ent.own, Ent.put, setE, killA, noAl_ow, noAl_io1, noAl_no, noAl_ro, noAl_al', killJ_cons, killJ_nil0, noRo_ow, noRo_io, noRo_no, noRo_al, mem1, notIn, noRA_ow, noRA_io, noRA_no, noRA_al, Plc, demE, List.foldl_cons, List.foldl_nil, List.map_cons, List.map_nil, List.set_cons_zero, List.set_cons_succ, endsOf, ↓outsOf, Option.map_some, plSet, TL.putAt, T.put, true_and, and_true, lst_set, lst_snoc, lm_set, lm_snoc, shOnly, shE_ow0, shE_ow1, shE_io, shE_no, Option.isSome_some, reduceIte, if_true, if_false, Bool.false_eq_true, Nat.reduceEqDiff]
      refine gIx_a (by rw [hFl]; omega) (gIx_a (j := i + 1) (by rw [hFl]; omega) ?_)
      simp -dsimp only [↓uSeq, ↓uNext, ↓uFor, ↓uSt, ↓uStV, ↓uAu, ↓uAp, ↓uApMv, ↓uAuN, ↓uAlias, ↓uDem, ↓uBrk, ↓uCnt, ↓uNev, ↓uRet, ↓uRetN, ↓uExp, ↓uExpP, ↓uRaise1, ↓wCallX, ↓uExpX, ↓uRetX, ↓uSetX, ↓uTryE, ↓gLtT, ↓iRngD, ↓vSortP, ↓vCat, ↓vCatV, ↓gCat, ↓uSet, ↓uSetR, ↓uIf, ↓wVar, ↓wVarV, ↓wC, ↓w1, ↓w2, ↓wT, asB, ↓wChain, ↓wNil, ↓wCons, ↓wAnd, ↓wOr, ↓wNot, ↓wAndV, ↓wOrV, ↓wNotV, ↓wIf, ↓wCallP, ↓wCallV, ↓wCa, ↓wTup, ↓wLst, ↓oNon, ↓oSom, ↓wSlice, ↓wRev, ↓vP, ↓vSh, ↓vFit, ↓vaNil, ↓vaCons, ↓vLst, ↓vTup, ↓vTup0, ↓vList, ↓vRep, ↓vSlice, ↓cSl, ↓vCallN, ↓v1, ↓vCa, ↓vIx, ↓tP, ↓vAnd, ↓vOr, ↓vNot, ↓vIf, ↓vT, ↓v2, ↓vLc, ↓gI2, ↓gI2c, ↓gLen, ↓gII, ↓gI, ↓gInt1, ↓gRep, ↓gKids, ↓gIn, ↓iLst, ↓TL.iTup, ↓TL.iRng1, ↓TL.iRng2, ↓iEn, ↓iZp, ↓hName, ↓hCons, ↓hNil, ↓hTup, ↓wSl, ↓wIsi, ↓wYes, rho0, iniE, entOf, allSh, List.replicate, List.length_cons, List.length_nil, Nat.reduceAdd, Nat.reduceSub, Nat.reduceLT, Nat.reduceLeDiff, List.cons_append, List.nil_append, List.getElem?_cons_zero, List.getElem?_cons_succ, Option.bind_some, Ent.tr, Ent.own, Ent.put, setE, killA, noAl_ow, noAl_io1, noAl_no, noAl_ro, noAl_al', killJ_cons, killJ_nil0, noRo_ow, noRo_io, noRo_no, noRo_al, mem1, notIn, noRA_ow, noRA_io, noRA_no, noRA_al, Plc, demE, List.foldl_cons, List.foldl_nil, List.map_cons, List.map_nil, List.set_cons_zero, List.set_cons_succ, endsOf, ↓outsOf, Option.map_some, plSet, TL.putAt, T.put, true_and, and_true, lst_set, lst_snoc, lm_set, lm_snoc, shOnly, shE_ow0, shE_ow1, shE_io, shE_no, Option.isSome_some, reduceIte, if_true, if_false, Bool.false_eq_true, Nat.reduceEqDiff]
      refine ⟨rfl, fit0, ?_, ?_, _, _, _, _, _, _, rfl⟩
      · rw [List.length_map, List.length_take]; omega
      · refine li_snoc ?_
        unfold pricesF
        rw [List.getElem?_map, List.getElem?_range hlt]; rfl
    obtain ⟨rfl, x7, x8, x9, x10, x11, x13, rfl⟩ := hI
    rw [rgT_len, show (pricesF (fF lacks kinds am) lacks.length).take lacks.length = pricesF (fF lacks kinds am) lacks.length from List.take_of_length_le (by unfold pricesF; simp)]
    simp -dsimp only [↓uSeq, ↓uNext, ↓uFor, ↓uSt, ↓uStV, ↓uAu, ↓uAp, ↓uApMv, ↓uAuN, ↓uAlias, ↓uDem, ↓uBrk, ↓uCnt, ↓uNev, ↓uRet, ↓uRetN, ↓uExp, ↓uExpP, ↓uRaise1, ↓wCallX, ↓uExpX, ↓uRetX, ↓uSetX, ↓uTryE, ↓gLtT, ↓iRngD, ↓vSortP, ↓vCat, ↓vCatV, ↓gCat, ↓uSet, ↓uSetR, ↓uIf, ↓wVar, ↓wVarV, ↓wC, ↓w1, ↓w2, ↓wT, asB, ↓wChain, ↓wNil, ↓wCons, ↓wAnd, ↓wOr, ↓wNot, ↓wAndV, ↓wOrV, ↓wNotV, ↓wIf, ↓wCallP, ↓wCallV, ↓wCa, ↓wTup, ↓wLst, ↓oNon, ↓oSom, ↓wSlice, ↓wRev, ↓vP, ↓vSh, ↓vFit, ↓vaNil, ↓vaCons, ↓vLst, ↓vTup, ↓vTup0, ↓vList, ↓vRep, ↓vSlice, ↓cSl, ↓vCallN, ↓v1, ↓vCa, ↓vIx, ↓tP, ↓vAnd, ↓vOr, ↓vNot, ↓vIf, ↓vT, ↓v2, ↓vLc, ↓gI2, ↓gI2c, ↓gLen, ↓gII, ↓gI, ↓gInt1, ↓gRep, ↓gKids, ↓gIn, ↓iLst, ↓TL.iTup, ↓TL.iRng1, ↓TL.iRng2, ↓iEn, ↓iZp, ↓hName, ↓hCons, ↓hNil, ↓hTup, ↓wSl, ↓wIsi, ↓wYes, rho0, iniE, entOf, allSh, List.replicate, List.length_cons, List.length_nil, Nat.reduceAdd, Nat.reduceSub, Nat.reduceLT, Nat.reduceLeDiff, List.cons_append, List.nil_append, List.getElem?_cons_zero, List.getElem?_cons_succ, Option.bind_some, Ent.tr, Ent.own, Ent.put, setE, killA, noAl_ow, noAl_io1, noAl_no, noAl_ro, noAl_al', killJ_cons, killJ_nil0, noRo_ow, noRo_io, noRo_no, noRo_al, mem1, notIn, noRA_ow, noRA_io, noRA_no, noRA_al, Plc, demE, List.foldl_cons, List.foldl_nil, List.map_cons, List.map_nil, List.set_cons_zero, List.set_cons_succ, endsOf, ↓outsOf, Option.map_some, plSet, TL.putAt, T.put, true_and, and_true, lst_set, lst_snoc, lm_set, lm_snoc, shOnly, shE_ow0, shE_ow1, shE_io, shE_no, Option.isSome_some, reduceIte, if_true, if_false, Bool.false_eq_true, Nat.reduceEqDiff]
    refine ⟨fun i acc ρ => acc = ((rentsF (fF lacks kinds am) kinds).take i).map T.int ∧ ∃ x7 x8 x9 x10 x11 x13, ρ = [Ent.ow 0 (Li lacks), Ent.ow 0 (Lk kinds), Ent.ow 1 (Li am), Ent.ow 0 (.lst (qs.map pr)), Ent.ow 1 (Li (fF lacks kinds am)), Ent.ow 1 (Li (pricesF (fF lacks kinds am) lacks.length)), Ent.no, x7, x8, x9, x10, x11, Ent.no, x13], ⟨rfl, _, _, _, _, _, _, rfl⟩, fun i t acc ρ hi hI => ?_, fun acc ρ hI => ?_⟩
    · obtain ⟨rfl, x7, x8, x9, x10, x11, x13, rfl⟩ := hI
      obtain ⟨x, hx, rfl⟩ := mapk_get.mp hi
      have hxg := hg.2 _ (List.mem_of_getElem? hx)
      have hxi := (List.getElem?_eq_some_iff.mp hx).1
      obtain ⟨j, hj⟩ := Int.eq_ofNat_of_zero_le hxg.1.1
      simp -dsimp only [g30, g31, ↓uSeq, ↓uNext, ↓uFor, ↓uSt, ↓uStV, ↓uAu, ↓uAp, ↓uApMv, ↓uAuN, ↓uAlias, ↓uDem, ↓uBrk, ↓uCnt, ↓uNev, ↓uRet, ↓uRetN, ↓uExp, ↓uExpP, ↓uRaise1, ↓wCallX, ↓uExpX, ↓uRetX, ↓uSetX, ↓uTryE, ↓gLtT, ↓iRngD, ↓vSortP, ↓vCat, ↓vCatV, ↓gCat, ↓uSet, ↓uSetR, ↓uIf, ↓wVar, ↓wVarV, ↓wC, ↓w1, ↓w2, ↓wT, asB, ↓wChain, ↓wNil, ↓wCons, ↓wAnd, ↓wOr, ↓wNot, ↓wAndV, ↓wOrV, ↓wNotV, ↓wIf, ↓wCallP, ↓wCallV, ↓wCa, ↓wTup, ↓wLst, ↓oNon, ↓oSom, ↓wSlice, ↓wRev, ↓vP, ↓vSh, ↓vFit, ↓vaNil, ↓vaCons, ↓vLst, ↓vTup, ↓vTup0, ↓vList, ↓vRep, ↓vSlice, ↓cSl, ↓vCallN, ↓v1, ↓vCa, ↓vIx, ↓tP, ↓vAnd, ↓vOr, ↓vNot, ↓vIf, ↓vT, ↓v2, ↓vLc, ↓gI2, ↓gI2c, ↓gLen, ↓gII, ↓gI, ↓gInt1, ↓gRep, ↓gKids, ↓gIn, ↓iLst, ↓TL.iTup, ↓TL.iRng1, ↓TL.iRng2, ↓iEn, ↓iZp, ↓hName, ↓hCons, ↓hNil, ↓hTup, ↓wSl, ↓wIsi, ↓wYes, rho0, iniE, entOf, allSh, List.replicate, List.length_cons, List.length_nil, Nat.reduceAdd, Nat.reduceSub, Nat.reduceLT, Nat.reduceLeDiff, List.cons_append, List.nil_append, List.getElem?_cons_zero, List.getElem?_cons_succ, Option.bind_some, Ent.tr, Ent.own, Ent.put, setE, killA, noAl_ow, noAl_io1, noAl_no, noAl_ro, noAl_al', killJ_cons, killJ_nil0, noRo_ow, noRo_io, noRo_no, noRo_al, mem1, notIn, noRA_ow, noRA_io, noRA_no, noRA_al, Plc, demE, List.foldl_cons, List.foldl_nil, List.map_cons, List.map_nil, List.set_cons_zero, List.set_cons_succ, endsOf, ↓outsOf, Option.map_some, plSet, TL.putAt, T.put, true_and, and_true, lst_set, lst_snoc, lm_set, lm_snoc, shOnly, shE_ow0, shE_ow1, shE_io, shE_no, Option.isSome_some, reduceIte, if_true, if_false, Bool.false_eq_true, Nat.reduceEqDiff]
      rw [hj]
      have hjl := hxg.1.2
      refine gIx_a (by rw [hFl]; omega) ?_
      simp -dsimp only [↓uSeq, ↓uNext, ↓uFor, ↓uSt, ↓uStV, ↓uAu, ↓uAp, ↓uApMv, ↓uAuN, ↓uAlias, ↓uDem, ↓uBrk, ↓uCnt, ↓uNev, ↓uRet, ↓uRetN, ↓uExp, ↓uExpP, ↓uRaise1, ↓wCallX, ↓uExpX, ↓uRetX, ↓uSetX, ↓uTryE, ↓gLtT, ↓iRngD, ↓vSortP, ↓vCat, ↓vCatV, ↓gCat, ↓uSet, ↓uSetR, ↓uIf, ↓wVar, ↓wVarV, ↓wC, ↓w1, ↓w2, ↓wT, asB, ↓wChain, ↓wNil, ↓wCons, ↓wAnd, ↓wOr, ↓wNot, ↓wAndV, ↓wOrV, ↓wNotV, ↓wIf, ↓wCallP, ↓wCallV, ↓wCa, ↓wTup, ↓wLst, ↓oNon, ↓oSom, ↓wSlice, ↓wRev, ↓vP, ↓vSh, ↓vFit, ↓vaNil, ↓vaCons, ↓vLst, ↓vTup, ↓vTup0, ↓vList, ↓vRep, ↓vSlice, ↓cSl, ↓vCallN, ↓v1, ↓vCa, ↓vIx, ↓tP, ↓vAnd, ↓vOr, ↓vNot, ↓vIf, ↓vT, ↓v2, ↓vLc, ↓gI2, ↓gI2c, ↓gLen, ↓gII, ↓gI, ↓gInt1, ↓gRep, ↓gKids, ↓gIn, ↓iLst, ↓TL.iTup, ↓TL.iRng1, ↓TL.iRng2, ↓iEn, ↓iZp, ↓hName, ↓hCons, ↓hNil, ↓hTup, ↓wSl, ↓wIsi, ↓wYes, rho0, iniE, entOf, allSh, List.replicate, List.length_cons, List.length_nil, Nat.reduceAdd, Nat.reduceSub, Nat.reduceLT, Nat.reduceLeDiff, List.cons_append, List.nil_append, List.getElem?_cons_zero, List.getElem?_cons_succ, Option.bind_some, Ent.tr, Ent.own, Ent.put, setE, killA, noAl_ow, noAl_io1, noAl_no, noAl_ro, noAl_al', killJ_cons, killJ_nil0, noRo_ow, noRo_io, noRo_no, noRo_al, mem1, notIn, noRA_ow, noRA_io, noRA_no, noRA_al, Plc, demE, List.foldl_cons, List.foldl_nil, List.map_cons, List.map_nil, List.set_cons_zero, List.set_cons_succ, endsOf, ↓outsOf, Option.map_some, plSet, TL.putAt, T.put, true_and, and_true, lst_set, lst_snoc, lm_set, lm_snoc, shOnly, shE_ow0, shE_ow1, shE_io, shE_no, Option.isSome_some, reduceIte, if_true, if_false, Bool.false_eq_true, Nat.reduceEqDiff]
      refine ⟨rfl, fit0, ?_, ?_, _, _, _, _, _, _, rfl⟩
      · rw [List.length_map, List.length_take]; omega
      · refine li_snoc ?_
        unfold rentsF
        rw [List.getElem?_map, hx]
        show some (mx 0 ((fF lacks kinds am).getD x.1.toNat 0 - x.2.1)) = _
        rw [hj]; rfl
    · obtain ⟨rfl, x7, x8, x9, x10, x11, x13, rfl⟩ := hI
      rw [List.length_map, show (rentsF (fF lacks kinds am) kinds).take kinds.length = rentsF (fF lacks kinds am) kinds from List.take_of_length_le (by unfold rentsF; simp)]
      simp -dsimp only [↓uSeq, ↓uNext, ↓uFor, ↓uSt, ↓uStV, ↓uAu, ↓uAp, ↓uApMv, ↓uAuN, ↓uAlias, ↓uDem, ↓uBrk, ↓uCnt, ↓uNev, ↓uRet, ↓uRetN, ↓uExp, ↓uExpP, ↓uRaise1, ↓wCallX, ↓uExpX, ↓uRetX, ↓uSetX, ↓uTryE, ↓gLtT, ↓iRngD, ↓vSortP, ↓vCat, ↓vCatV, ↓gCat, ↓uSet, ↓uSetR, ↓uIf, ↓wVar, ↓wVarV, ↓wC, ↓w1, ↓w2, ↓wT, asB, ↓wChain, ↓wNil, ↓wCons, ↓wAnd, ↓wOr, ↓wNot, ↓wAndV, ↓wOrV, ↓wNotV, ↓wIf, ↓wCallP, ↓wCallV, ↓wCa, ↓wTup, ↓wLst, ↓oNon, ↓oSom, ↓wSlice, ↓wRev, ↓vP, ↓vSh, ↓vFit, ↓vaNil, ↓vaCons, ↓vLst, ↓vTup, ↓vTup0, ↓vList, ↓vRep, ↓vSlice, ↓cSl, ↓vCallN, ↓v1, ↓vCa, ↓vIx, ↓tP, ↓vAnd, ↓vOr, ↓vNot, ↓vIf, ↓vT, ↓v2, ↓vLc, ↓gI2, ↓gI2c, ↓gLen, ↓gII, ↓gI, ↓gInt1, ↓gRep, ↓gKids, ↓gIn, ↓iLst, ↓TL.iTup, ↓TL.iRng1, ↓TL.iRng2, ↓iEn, ↓iZp, ↓hName, ↓hCons, ↓hNil, ↓hTup, ↓wSl, ↓wIsi, ↓wYes, rho0, iniE, entOf, allSh, List.replicate, List.length_cons, List.length_nil, Nat.reduceAdd, Nat.reduceSub, Nat.reduceLT, Nat.reduceLeDiff, List.cons_append, List.nil_append, List.getElem?_cons_zero, List.getElem?_cons_succ, Option.bind_some, Ent.tr, Ent.own, Ent.put, setE, killA, noAl_ow, noAl_io1, noAl_no, noAl_ro, noAl_al', killJ_cons, killJ_nil0, noRo_ow, noRo_io, noRo_no, noRo_al, mem1, notIn, noRA_ow, noRA_io, noRA_no, noRA_al, Plc, demE, List.foldl_cons, List.foldl_nil, List.map_cons, List.map_nil, List.set_cons_zero, List.set_cons_succ, endsOf, ↓outsOf, Option.map_some, plSet, TL.putAt, T.put, true_and, and_true, lst_set, lst_snoc, lm_set, lm_snoc, shOnly, shE_ow0, shE_ow1, shE_io, shE_no, Option.isSome_some, reduceIte, if_true, if_false, Bool.false_eq_true, Nat.reduceEqDiff]
      exact ⟨.inl (Nat.le_refl _), .inl (Nat.le_refl _), .inl (Nat.le_refl _), h1⟩
end
end K89
set_option Elab.async false
set_option linter.all false
set_option maxRecDepth 100000
namespace K89
open PySem PySem.Spec PyProof.Rows L2 TL
/-! ### one after the other, cheapest first -/
abbrev av (kinds : List K3) (k : Nat) (am : List Int) (j : Nat) : Prop := (kAt kinds j).1 ≤ k ∧ (kAt kinds j).2.2 - aAt am j > 0
abbrev qOf (kinds : List K3) (j : Nat) : P2 := ((kAt kinds j).2.1, (j : Int))
theorem set_same {am : List Int} {j : Nat} : am.set j (aAt am j) = am := by
  by_cases h : j < am.length
  · exact set_self (aAt_get h)
  · exact List.set_eq_of_length_le (by omega)
theorem sStep_no {kinds : List K3} {k : Nat} {s : List Int × Int} {j : Nat} (hi : aAt s.1 j ≤ (kAt kinds j).2.2) (h : ¬ av kinds k s.1 j) : sStep kinds k s (qOf kinds j) = s := by
  unfold sStep
  simp only [Int.toNat_natCast]
  split
  · rename_i c
    have e : (kAt kinds j).2.2 - aAt s.1 j = 0 := by
      by_cases z : (kAt kinds j).2.2 - aAt s.1 j > 0
      · exact absurd ⟨c.2, z⟩ h
      · omega
    rw [e]
    have e2 : mn s.2 0 = 0 := by unfold mn; split <;> omega
    rw [e2, Int.add_zero, Int.sub_zero, set_same]
  · rfl
theorem sStep_le {kinds : List K3} {k : Nat} {s : List Int × Int} {q : P2} (h : ¬ s.2 > 0) : sStep kinds k s q = s := by
  unfold sStep
  rw [if_neg fun z => h z.1]
theorem scan_id {kinds : List K3} {k : Nat} : ∀ {qs : List P2} {s : List Int × Int}, (∀ q ∈ qs, sStep kinds k s q = s) → scan kinds k qs s = s
  | [], _, _ => rfl
  | q :: qs, s, h => by
    show scan kinds k qs (sStep kinds k s q) = s
    rw [h q List.mem_cons_self]
    exact scan_id fun z hz => h z (List.mem_cons_of_mem _ hz)
theorem scan_le {kinds : List K3} {k : Nat} {qs : List P2} {s : List Int × Int} (h : ¬ s.2 > 0) : scan kinds k qs s = s := scan_id fun _ _ => sStep_le h
theorem scan_none {kinds : List K3} {k : Nat} {qs : List P2} {s : List Int × Int} (hq : IsCheap kinds qs) (hs : AmOk kinds s.1) (h : ∀ j, j < kinds.length → ¬ av kinds k s.1 j) : scan kinds k qs s = s := scan_id fun q hq' => by
  obtain ⟨j, hj, rfl⟩ := cheap_mem hq hq'
  exact sStep_no (hs.hi j hj) (h j hj)
theorem scan_turn {kinds : List K3} {k : Nat} {qs : List P2} {s : List Int × Int} {b : Nat} (hq : IsCheap kinds qs) (hs : AmOk kinds s.1) (hb : b < kinds.length) (hav : av kinds k s.1 b) (hm : s.2 > 0)
    (hmin : ∀ j, j < kinds.length → av kinds k s.1 j → ¬ HT.lexLt [(kAt kinds j).2.1, (j : Int)] [(kAt kinds b).2.1, (b : Int)] = true) :
    scan kinds k qs (sStep kinds k s (qOf kinds b)) = scan kinds k qs s := by
  obtain ⟨A, B, rfl⟩ := List.append_of_mem (mem_cheap hq hb)
  have nd := cheap_nd hq
  rw [List.map_append, List.map_cons] at nd
  obtain ⟨_, nd2, nd3⟩ := List.nodup_append.mp nd
  have pw := (List.pairwise_append.mp hq.2).2.2
  -- those ahead of b
  have ahead : ∀ q ∈ A, ∃ j : Nat, j < kinds.length ∧ q = qOf kinds j ∧ j ≠ b ∧ ¬ av kinds k s.1 j := fun q hqa => by
    obtain ⟨j, hj, rfl⟩ := cheap_mem hq (List.mem_append_left _ hqa)
    have ne : j ≠ b := fun e => by
      subst e
      exact nd3 _ (List.mem_map.mpr ⟨_, hqa, rfl⟩) _ List.mem_cons_self rfl
    refine ⟨j, hj, rfl, ne, fun a => ?_⟩
    have le := pw _ hqa _ List.mem_cons_self
    have le := SrtO.lexB_no.mp le
    have nl := hmin j hj a
    simp only at le
    apply nl
    rw [HT.lexLt_cons, HT.lexLt_cons]
    split
    · rename_i e
      split
      · rename_i e2
        exact absurd (by omega) ne
      · refine decide_eq_true ?_
        omega
    · refine decide_eq_true ?_
      omega
  have j1 : ∀ q ∈ A, sStep kinds k s q = s := fun q hqa => by
    obtain ⟨j, hj, rfl, _, na⟩ := ahead q hqa
    exact sStep_no (hs.hi j hj) na
  have bl : b < s.1.length := by rw [hs.len]; exact hb
  generalize ht : sStep kinds k s (qOf kinds b) = t
  have tEq : t = (s.1.set b (aAt s.1 b + mn s.2 ((kAt kinds b).2.2 - aAt s.1 b)), s.2 - mn s.2 ((kAt kinds b).2.2 - aAt s.1 b)) := by
    rw [← ht]
    unfold sStep
    simp only [Int.toNat_natCast]
    rw [if_pos ⟨hm, hav.1⟩]
  have ta : ∀ j, aAt t.1 j = if b = j then aAt s.1 b + mn s.2 ((kAt kinds b).2.2 - aAt s.1 b) else aAt s.1 j := fun j => by rw [tEq]; exact aAt_set bl
  have tb : ¬ t.2 > 0 ∨ ¬ av kinds k t.1 b := by
    by_cases c : (kAt kinds b).2.2 - aAt s.1 b < s.2
    · right
      intro z
      have z2 := z.2
      rw [ta, if_pos rfl] at z2
      unfold mn at z2
      rw [if_pos c] at z2
      omega
    · left
      rw [tEq]
      show ¬ s.2 - mn s.2 _ > 0
      unfold mn
      rw [if_neg c]
      omega
  have tle : aAt t.1 b ≤ (kAt kinds b).2.2 := by
    rw [ta, if_pos rfl]
    unfold mn
    split <;> omega
  have j2 : ∀ q ∈ A, sStep kinds k t q = t := fun q hqa => by
    obtain ⟨j, hj, rfl, ne, na⟩ := ahead q hqa
    have ej : aAt t.1 j = aAt s.1 j := by rw [ta, if_neg fun e => ne e.symm]
    refine sStep_no (by rw [ej]; exact hs.hi j hj) fun z => na ?_
    unfold av at z
    rw [ej] at z
    exact z
  have jb : sStep kinds k t (qOf kinds b) = t := by
    rcases tb with z | z
    · exact sStep_le z
    · exact sStep_no tle z
  have l1 : scan kinds k (A ++ qOf kinds b :: B) t = scan kinds k B t := by
    show List.foldl _ _ (A ++ _ :: B) = _
    rw [List.foldl_append, List.foldl_cons]
    have z := scan_id (qs := A) j2
    unfold scan at z
    rw [z, jb]; rfl
  have l2 : scan kinds k (A ++ qOf kinds b :: B) s = scan kinds k B t := by
    show List.foldl _ _ (A ++ _ :: B) = _
    rw [List.foldl_append, List.foldl_cons]
    have z := scan_id (qs := A) j1
    unfold scan at z
    rw [z, ht]; rfl
  rw [l1, l2]
/-! how many are there still -/
def avN (kinds : List K3) (k : Nat) (am : List Int) : Nat := ((List.range kinds.length).filter fun j => decide (av kinds k am j)).length
theorem filt_lt {α : Type} {p q : α → Bool} : ∀ {l : List α}, (∀ x ∈ l, q x = true → p x = true) → (∃ x ∈ l, p x = true ∧ q x = false) → (l.filter q).length + 1 ≤ (l.filter p).length
  | [], _, h => by obtain ⟨x, hx, _⟩ := h; cases hx
  | a :: l, h1, h2 => by
    have le : ∀ l : List α, (∀ x ∈ l, q x = true → p x = true) → (l.filter q).length ≤ (l.filter p).length := by
      intro l
      induction l with
      | nil => intro _; exact Nat.le_refl _
      | cons b l ih =>
        intro h
        have ih := ih fun x hx => h x (List.mem_cons_of_mem _ hx)
        by_cases e : q b = true
        · rw [List.filter_cons_of_pos e, List.filter_cons_of_pos (h b List.mem_cons_self e)]
          simpa using ih
        · rw [List.filter_cons_of_neg e]
          by_cases e2 : p b = true
          · rw [List.filter_cons_of_pos e2, List.length_cons]; omega
          · rw [List.filter_cons_of_neg e2]; exact ih
    obtain ⟨x, hx, px, qx⟩ := h2
    rcases List.mem_cons.mp hx with rfl | hx
    · rw [List.filter_cons_of_pos px, List.filter_cons_of_neg (by rw [qx]; exact Bool.false_ne_true), List.length_cons]
      have := le l fun y hy => h1 y (List.mem_cons_of_mem _ hy)
      omega
    · have ih := filt_lt (l := l) (fun y hy => h1 y (List.mem_cons_of_mem _ hy)) ⟨x, hx, px, qx⟩
      by_cases e : q a = true
      · rw [List.filter_cons_of_pos e, List.filter_cons_of_pos (h1 a List.mem_cons_self e)]
        simpa using ih
      · rw [List.filter_cons_of_neg e]
        by_cases e2 : p a = true
        · rw [List.filter_cons_of_pos e2, List.length_cons]; omega
        · rw [List.filter_cons_of_neg e2]; exact ih
theorem avN_turn {kinds : List K3} {k : Nat} {s : List Int × Int} {b : Nat} (hs : AmOk kinds s.1) (hb : b < kinds.length) (hav : av kinds k s.1 b) (hm : s.2 > 0) (ht : (sStep kinds k s (qOf kinds b)).2 > 0) :
    avN kinds k (sStep kinds k s (qOf kinds b)).1 + 1 ≤ avN kinds k s.1 := by
  have bl : b < s.1.length := by rw [hs.len]; exact hb
  have tEq : sStep kinds k s (qOf kinds b) = (s.1.set b (aAt s.1 b + mn s.2 ((kAt kinds b).2.2 - aAt s.1 b)), s.2 - mn s.2 ((kAt kinds b).2.2 - aAt s.1 b)) := by
    unfold sStep
    simp only [Int.toNat_natCast]
    rw [if_pos ⟨hm, hav.1⟩]
  rw [tEq] at ht ⊢
  simp only at ht ⊢
  have c : (kAt kinds b).2.2 - aAt s.1 b < s.2 := by
    rcases Int.lt_or_le ((kAt kinds b).2.2 - aAt s.1 b) s.2 with z | z
    · exact z
    · unfold mn at ht
      rw [if_neg (by omega)] at ht
      omega
  have m : mn s.2 ((kAt kinds b).2.2 - aAt s.1 b) = (kAt kinds b).2.2 - aAt s.1 b := by unfold mn; rw [if_pos c]
  rw [m]
  unfold avN
  refine filt_lt (fun j hj hq => ?_) ⟨b, List.mem_range.mpr hb, decide_eq_true hav, decide_eq_false fun z => ?_⟩
  · have hq := of_decide_eq_true hq
    refine decide_eq_true ?_
    unfold av at hq ⊢
    rw [aAt_set bl] at hq
    split at hq
    · rename_i e
      subst e
      have := hq.2
      omega
    · exact hq
  · have z2 := z.2
    rw [aAt_set bl, if_pos rfl] at z2
    omega
theorem avN_le {kinds : List K3} {k : Nat} {am : List Int} : avN kinds k am ≤ kinds.length := by
  unfold avN
  have := List.length_filter_le (fun j => decide (av kinds k am j)) (List.range kinds.length)
  rwa [List.length_range] at this
/-! sums -/
theorem pcs_sum : ∀ {kinds : List K3} {am : List Int} {k : Int}, am.length = kinds.length → (∀ i, i < kinds.length → aAt am i ≠ 0 → (kAt kinds i).1 ≤ k) → pcs kinds am k = am.sum
  | [], am, k, hl, _ => by simp at hl; subst hl; rfl
  | x :: kinds, [], k, hl, _ => by simp at hl
  | x :: kinds, a :: am, k, hl, h => by
    rw [pcs_cons, List.sum_cons, pcs_sum (by simpa using hl) (fun i hi ne => h (i + 1) (by simpa using hi) ne)]
    have h0 := h 0 (by simp)
    have e1 : aAt (a :: am) 0 = a := rfl
    have e2 : kAt (x :: kinds) 0 = x := rfl
    rw [e1, e2] at h0
    by_cases z : a = 0
    · subst z; split <;> omega
    · rw [if_pos (h0 z)]
theorem sum_set {am : List Int} {j : Nat} {v : Int} : j < am.length → (am.set j v).sum = am.sum + (v - aAt am j) := by
  induction am generalizing j with
  | nil => intro h; simp at h
  | cons a am ih =>
    intro h
    cases j with
    | zero => rw [List.set_cons_zero, List.sum_cons, List.sum_cons]; show _ = _ + (v - a); omega
    | succ j =>
      rw [List.set_cons_succ, List.sum_cons, List.sum_cons, ih (by simpa using h)]
      show _ = _ + (v - aAt am j); omega
def leftL (kinds : List K3) (am : List Int) : List Int := List.zipWith (fun x a => x.2.2 - a) kinds am
theorem left_len {kinds : List K3} {am : List Int} (h : am.length = kinds.length) : (leftL kinds am).length = kinds.length := by unfold leftL; simp [h]
theorem left_get {kinds : List K3} {am : List Int} {j : Nat} (h : am.length = kinds.length) (hj : j < kinds.length) : (leftL kinds am)[j]? = some ((kAt kinds j).2.2 - aAt am j) := by
  unfold leftL
  rw [List.getElem?_zipWith, kAt_get hj, aAt_get (by omega)]
theorem left_set {kinds : List K3} {am : List Int} {j : Nat} {v : Int} (h : am.length = kinds.length) (hj : j < kinds.length) : (leftL kinds am).set j ((kAt kinds j).2.2 - v) = leftL kinds (am.set j v) := by
  have hs : (am.set j v).length = kinds.length := by rw [List.length_set]; exact h
  apply List.ext_getElem?
  intro i
  rw [List.getElem?_set]
  by_cases hi : i < kinds.length
  · rw [left_get (am := am.set j v) hs hi, aAt_set (by omega)]
    by_cases e : j = i
    · subst e
      rw [if_pos rfl, if_pos (by rw [left_len h]; exact hi), if_pos rfl]
    · rw [if_neg e, left_get h hi, if_neg e]
  · rw [List.getElem?_eq_none_iff.mpr (show (leftL kinds (am.set j v)).length ≤ i by rw [left_len hs]; omega)]
    by_cases e : j = i
    · omega
    · rw [if_neg e, List.getElem?_eq_none_iff.mpr (by rw [left_len h]; omega)]
/-! the cheapest order is one -/
theorem cheap_one {kinds : List K3} {p q : List P2} (hp : IsCheap kinds p) (hq : IsCheap kinds q) : p = q := by
  refine List.Perm.eq_of_pairwise (le := fun x y => SrtO.lexB y x = false) (fun a b _ _ h1 h2 => ?_) hp.2 hq.2 (hp.1.trans hq.1.symm)
  have h1 := SrtO.lexB_no.mp h1
  have h2 := SrtO.lexB_no.mp h2
  have e1 : a.1 = b.1 := by omega
  have e2 : a.2 = b.2 := by omega
  exact Prod.ext e1 e2
theorem cheap_ex (kinds : List K3) : ∃ qs, IsCheap kinds qs := by
  refine ⟨(kinds.mapIdx fun i x => (x.2.1, (i : Int))).mergeSort (fun x y => !SrtO.lexB y x), List.mergeSort_perm _ _, ?_⟩
  have z := List.pairwise_mergeSort (le := fun x y : P2 => !SrtO.lexB y x) (fun a b c h1 h2 => ?_) (fun a b => ?_) (kinds.mapIdx fun i x => (x.2.1, (i : Int)))
  · exact z.imp fun h => by simpa using h
  · simp only [Bool.not_eq_true'] at *
    have h1 := SrtO.lexB_no.mp h1
    have h2 := SrtO.lexB_no.mp h2
    refine SrtO.lexB_no.mpr ?_
    omega
  · by_cases h : SrtO.lexB b a = true
    · have h := SrtO.lexB_iff.mp h
      have z : SrtO.lexB a b = false := SrtO.lexB_no.mpr (by omega)
      rw [z]; simp
    · have z : SrtO.lexB b a = false := by simpa using h
      rw [z]; rfl
end K89
set_option Elab.async false
set_option linter.all false
set_option maxRecDepth 100000
namespace K89
open PySem PySem.Spec PyProof.Rows L2 L2H TL
def bT (kinds : List K3) : Option Nat → T
  | none => .non
  | some b => .tup [.int (kAt kinds b).2.1, .int (b : Int)]
structure BestOk (kinds : List K3) (k : Nat) (am : List Int) (i : Nat) (b : Option Nat) : Prop where
  no : b = none → ∀ j, j < i → ¬ av kinds k am j
  yes : ∀ c, b = some c → c < i ∧ av kinds k am c ∧ ∀ j, j < i → av kinds k am j → ¬ HT.lexLt [(kAt kinds j).2.1, (j : Int)] [(kAt kinds c).2.1, (c : Int)] = true
theorem best_skip {kinds : List K3} {k : Nat} {am : List Int} {i : Nat} {b : Option Nat} (h : BestOk kinds k am i b) (hn : ¬ av kinds k am i) : BestOk kinds k am (i + 1) b :=
  ⟨fun e j hj => by
    rcases Nat.lt_or_ge j i with z | z
    · exact h.no e j z
    · rw [show j = i by omega]; exact hn, fun c e => by
    obtain ⟨h1, h2, h3⟩ := h.yes c e
    refine ⟨by omega, h2, fun j hj ha => ?_⟩
    rcases Nat.lt_or_ge j i with z | z
    · exact h3 j z ha
    · rw [show j = i by omega] at ha; exact absurd ha hn⟩
theorem lex_irr {a b : Int} : ¬ HT.lexLt [a, b] [a, b] = true := by
  rw [HT.lexLt_cons, if_pos rfl, HT.lexLt_cons, if_pos rfl]
  exact Bool.false_ne_true
theorem lex_trans {a b c d e f : Int} (h1 : HT.lexLt [a, b] [c, d] = true) (h2 : ¬ HT.lexLt [e, f] [c, d] = true) : ¬ HT.lexLt [e, f] [a, b] = true := by
  simp only [HT.lexLt_cons] at *
  intro z
  by_cases q1 : a = c <;> by_cases q2 : b = d <;> by_cases q3 : e = c <;> by_cases q4 : f = d <;> by_cases q5 : e = a <;> by_cases q6 : f = b <;> simp_all [HT.lexLt] <;> omega
theorem best_new {kinds : List K3} {k : Nat} {am : List Int} {i : Nat} (h : BestOk kinds k am i none) (hn : av kinds k am i) : BestOk kinds k am (i + 1) (some i) :=
  ⟨(fun e => nomatch e), fun c e => by
    cases e
    refine ⟨by omega, hn, fun j hj ha => ?_⟩
    rcases Nat.lt_or_ge j i with z | z
    · exact absurd ha (h.no rfl j z)
    · rw [show j = i by omega]; exact lex_irr⟩
theorem best_less {kinds : List K3} {k : Nat} {am : List Int} {i b : Nat} (h : BestOk kinds k am i (some b)) (hn : av kinds k am i) (hl : HT.lexLt [(kAt kinds i).2.1, (i : Int)] [(kAt kinds b).2.1, (b : Int)] = true) : BestOk kinds k am (i + 1) (some i) :=
  ⟨(fun e => nomatch e), fun c e => by
    cases e
    obtain ⟨h1, h2, h3⟩ := h.yes b rfl
    refine ⟨by omega, hn, fun j hj ha => ?_⟩
    rcases Nat.lt_or_ge j i with z | z
    · exact lex_trans hl (h3 j z ha)
    · rw [show j = i by omega]; exact lex_irr⟩
theorem best_more {kinds : List K3} {k : Nat} {am : List Int} {i b : Nat} (h : BestOk kinds k am i (some b)) (hl : ¬ HT.lexLt [(kAt kinds i).2.1, (i : Int)] [(kAt kinds b).2.1, (b : Int)] = true) : BestOk kinds k am (i + 1) (some b) :=
  ⟨(fun e => nomatch e), fun c e => by
    cases e
    obtain ⟨h1, h2, h3⟩ := h.yes b rfl
    refine ⟨by omega, h2, fun j hj ha => ?_⟩
    rcases Nat.lt_or_ge j i with z | z
    · exact h3 j z ha
    · rw [show j = i by omega]; exact hl⟩
/-- within a level: behind t turns -/
structure TurnOk (kinds : List K3) (qs : List P2) (k : Nat) (am0 : List Int) (l : Int) (t : Nat) (am : List Int) : Prop where
  st : StOk kinds k am0 l (am, l - am.sum)
  sc : scan kinds k qs (am, l - am.sum) = scan kinds k qs (am0, l - pcs kinds am0 k)
  few : l - am.sum > 0 → avN kinds k am + t ≤ kinds.length
  sum : pcs kinds am k = am.sum
theorem turn_step {kinds : List K3} {qs : List P2} {k : Nat} {am0 : List Int} {l : Int} {t : Nat} {am : List Int} {b : Nat} (hq : IsCheap kinds qs) (h : TurnOk kinds qs k am0 l t am) (hm : l - am.sum > 0) (hb : BestOk kinds k am kinds.length (some b)) :
    TurnOk kinds qs k am0 l (t + 1) (am.set b (aAt am b + mn (l - am.sum) ((kAt kinds b).2.2 - aAt am b))) := by
  obtain ⟨b1, b2, b3⟩ := hb.yes b rfl
  have hs : AmOk kinds (am, l - am.sum).1 := h.st.toAmOk
  have bl : b < am.length := by have := h.st.len; simp only at this; omega
  have tEq : sStep kinds k (am, l - am.sum) (qOf kinds b) = (am.set b (aAt am b + mn (l - am.sum) ((kAt kinds b).2.2 - aAt am b)), l - am.sum - mn (l - am.sum) ((kAt kinds b).2.2 - aAt am b)) := by
    unfold sStep
    simp only [Int.toNat_natCast]
    rw [if_pos ⟨hm, b2.1⟩]
  have sm : (am.set b (aAt am b + mn (l - am.sum) ((kAt kinds b).2.2 - aAt am b))).sum = am.sum + mn (l - am.sum) ((kAt kinds b).2.2 - aAt am b) := by
    rw [sum_set bl]; omega
  have tEq2 : sStep kinds k (am, l - am.sum) (qOf kinds b) = (am.set b (aAt am b + mn (l - am.sum) ((kAt kinds b).2.2 - aAt am b)), l - (am.set b (aAt am b + mn (l - am.sum) ((kAt kinds b).2.2 - aAt am b))).sum) := by
    rw [tEq, sm]
    congr 1
    omega
  have st2 := sStep_ok (p := (kAt kinds b).2.1) h.st b1
  have sc2 := scan_turn hq hs b1 b2 hm b3
  refine ⟨?_, ?_, fun hm2 => ?_, ?_⟩
  · rw [← tEq2]; exact st2
  · rw [← tEq2, sc2]; exact h.sc
  · have z := avN_turn hs b1 b2 hm (by rw [tEq2]; exact hm2)
    rw [tEq2] at z
    simp only at z
    have := h.few hm
    omega
  · have p := pcs_set (kinds := kinds) (am := am) (k := k) (i := b) (v := aAt am b + mn (l - am.sum) ((kAt kinds b).2.2 - aAt am b)) h.st.len bl
    rw [p, if_pos b2.1, sm, h.sum]
    omega
section
variable {P : Program} {w : World} {K : PySem.W.Frag} {mg : Str → Option Value} {base : Heap}
def amT : Except Nat (List Int) → T
  | .error k => .tup [.non, .int k]
  | .ok am => Li am
def W__law_amounts : FnT := fun ts R => ∃ (lacks : List Int) (kinds : List K3) (qs : List P2), ts = [Li lacks, Lk kinds] ∧ lacks.length ≤ 1000 ∧ goodK lacks.length kinds ∧ IsCheap kinds qs ∧ R 1 (amT (gr kinds qs lacks 0 (List.replicate kinds.length 0))) []
set_option maxHeartbeats 4000000 in
theorem ok__law_amounts {k : Nat} (G : Gs K mg) : FnOk P w K mg base CX0 (k + 1) G.g__law_amounts.f G.g__law_amounts.d ["lacks", "kinds"] (spT K (allSh 2) W__law_amounts) := by
  refine fnT (k := k + 0) G.g__law_amounts.F sc__law_amounts rfl (fun X cdv A outer s H E hX hr => ?_)
  subst hX
  refine ⟨_, (ts_cons (ts_set 2 sc__law_amounts.nd rfl (.inr rfl) (tv_lc (own := [("kind", 6)]) 0 [6] rfl sc__law_amounts.nd (ti_lst (tv_var 1)) (blkOk_by (N := ["lacks", "kinds", "left", "bought", "k", "turn", "kind", "best", "j", "some"]) (sc := defScope s__law_amounts) (by decide +kernel)) (fun _ _ _ _ _ => (tg_name 6 sc__law_amounts.nd rfl (.inl rfl))) (fun _ _ _ _ _ => tvts_nil) (fun _ _ _ _ _ => (tv_p (tp_ix (tp_var 6) tp_int (fun _ _ => rfl)))) (by decide)))
      (ts_cons (ts_set 3 sc__law_amounts.nd rfl (.inl rfl) (tv_p tp_int))
      (ts_cons (ts_for PassesOwn.never rfl (ti_rng1 (by rfl) G.z_range (tp_callB call_len_seq caT_len (by rfl) G.z_len PySem.boot_len (tpa_cons (tp_var 0) tpa_nil))) (tg_name 4 sc__law_amounts.nd rfl (.inl rfl)) (ts_one (ts_for PassesOwn.never rfl (ti_rng1 (by rfl) G.z_range (tp_op op_add opT_int (tp_callB call_len_seq caT_len (by rfl) G.z_len PySem.boot_len (tpa_cons (tp_var 1) tpa_nil)) tp_int)) (tg_name 5 sc__law_amounts.nd rfl (.inl rfl)) (ts_cons (ts_if (tvt_p (tpt_cmp op_ge opT_bl (tp_var 3) (tp_ix (tp_var 0) (tp_var 4) (fun _ _ => rfl)) (nomark _))) (ts_one ts_break) ts_nil)
      (ts_cons (ts_set 7 sc__law_amounts.nd rfl (.inl rfl) (tv_p tp_non))
      (ts_cons (ts_for PassesOwn.never rfl (ti_rng1 (by rfl) G.z_range (tp_callB call_len_seq caT_len (by rfl) G.z_len PySem.boot_len (tpa_cons (tp_var 1) tpa_nil))) (tg_name 8 sc__law_amounts.nd rfl (.inl rfl)) (ts_one (ts_if (tvt_p (TPW.pt (tpw_and (tpt_cmp op_le opT_bl (tp_ix (tp_ix (tp_var 1) (tp_var 8) (fun _ _ => rfl)) tp_int (fun _ _ => rfl)) (tp_var 4) (nomark _)) (tpw_and (tpt_cmp op_gt opT_bl (tp_ix (tp_var 2) (tp_var 8) (fun _ _ => rfl)) tp_int (nomark _)) (tpw_and1 (TPW.pt (tpw_or (tpt_cmp op_isN opT_isN (tp_var 7) tp_non (nomark _)) (tpw_or1 (tpt_cmp (op_ltT (ltU hr)) opT_ltT (tp_tup (tpa_cons (tp_ix (tp_ix (tp_var 1) (tp_var 8) (fun _ _ => rfl)) tp_int (fun _ _ => rfl)) (tpa_cons (tp_var 8) tpa_nil))) (tp_var 7) (nomark _)))))))))) (ts_one (ts_set 7 sc__law_amounts.nd rfl (.inl rfl) (tv_sh (tp_tup (tpa_cons (tp_ix (tp_ix (tp_var 1) (tp_var 8) (fun _ _ => rfl)) tp_int (fun _ _ => rfl)) (tpa_cons (tp_var 8) tpa_nil)))))) ts_nil)))
      (ts_cons (ts_if (tvt_p (tpt_cmp op_isN opT_isN (tp_var 7) tp_non (nomark _))) (ts_one (ts_ret (tv_tup 0 (tva_cons 0 (tv_p tp_non) (tva_cons 0 (tv_p (tp_var 4)) tva_nil)) (by simp) (by decide)))) ts_nil)
      (ts_cons (ts_set 9 sc__law_amounts.nd rfl (.inl rfl) (tv_p (tp_callB (call_min2 rfl) caT_ii (by rfl) G.z_min (by decide +kernel) (tpa_cons (tp_ix (tp_var 2) (tp_ix (tp_var 7) tp_int (fun _ _ => rfl)) (fun _ _ => rfl)) (tpa_cons (tp_op op_sub opT_int (tp_ix (tp_var 0) (tp_var 4) (fun _ _ => rfl)) (tp_var 3)) tpa_nil)))))
      (ts_cons (ts_store 2 (tv_p (tp_op op_sub opT_int (tp_ix (tp_var 2) (tp_ix (tp_var 7) tp_int (fun _ _ => rfl)) (fun _ _ => rfl)) (tp_var 9))) (tp_ix (tp_var 7) tp_int (fun _ _ => rfl)))
      (ts_one (ts_set 3 sc__law_amounts.nd rfl (.inl rfl) (tv_p (tp_op op_add opT_int (tp_var 3) (tp_var 9))))))))))))))
      (ts_one (ts_ret (tv_lc (own := [("j", 8)]) 0 [8] rfl sc__law_amounts.nd (ti_rng1 (by rfl) G.z_range (tp_callB call_len_seq caT_len (by rfl) G.z_len PySem.boot_len (tpa_cons (tp_var 1) tpa_nil))) (blkOk_by (N := ["lacks", "kinds", "left", "bought", "k", "turn", "kind", "best", "j", "some"]) (sc := defScope s__law_amounts) (by decide +kernel)) (fun _ _ _ _ _ => (tg_name 8 sc__law_amounts.nd rfl (.inl rfl))) (fun _ _ _ _ _ => tvts_nil) (fun _ _ _ _ _ => (tv_p (tp_op op_sub opT_int (tp_ix (tp_ix (tp_var 1) (tp_var 8) (fun _ _ => rfl)) tp_int (fun _ _ => rfl)) (tp_ix (tp_var 2) (tp_var 8) (fun _ _ => rfl))))) (by decide))))))), fun ts R hW hlen => ?_⟩

  obtain ⟨lacks, kinds, qs, rfl, hn, hg, hq, h⟩ := hW
  have hk := hg.1
  simp -dsimp only [↓uSeq, ↓uNext, ↓uFor, ↓uSt, ↓uStV, ↓uAu, ↓uAp, ↓uApMv, ↓uAuN, ↓uAlias, ↓uDem, ↓uBrk, ↓uCnt, ↓uNev, ↓uRet, ↓uRetN, ↓uExp, ↓uExpP, ↓uRaise1, ↓wCallX, ↓uExpX, ↓uRetX, ↓uSetX, ↓uTryE, ↓gLtT, ↓iRngD, ↓vSortP, ↓vCat, ↓vCatV, ↓gCat, ↓uSet, ↓uSetR, ↓uIf, ↓wVar, ↓wVarV, ↓wC, ↓w1, ↓w2, ↓wT, asB, ↓wChain, ↓wNil, ↓wCons, ↓wAnd, ↓wOr, ↓wNot, ↓wAndV, ↓wOrV, ↓wNotV, ↓wIf, ↓wCallP, ↓wCallV, ↓wCa, ↓wTup, ↓wLst, ↓oNon, ↓oSom, ↓wSlice, ↓wRev, ↓vP, ↓vSh, ↓vFit, ↓vaNil, ↓vaCons, ↓vLst, ↓vTup, ↓vTup0, ↓vList, ↓vRep, ↓vSlice, ↓cSl, ↓vCallN, ↓v1, ↓vCa, ↓vIx, ↓tP, ↓vAnd, ↓vOr, ↓vNot, ↓vIf, ↓vT, ↓v2, ↓vLc, ↓gI2, ↓gI2c, ↓gLen, ↓gII, ↓gI, ↓gInt1, ↓gRep, ↓gKids, ↓gIn, ↓iLst, ↓TL.iTup, ↓TL.iRng1, ↓TL.iRng2, ↓iEn, ↓iZp, ↓hName, ↓hCons, ↓hNil, ↓hTup, ↓wSl, ↓wIsi, ↓wYes, rho0, iniE, entOf, allSh, List.replicate, List.length_cons, List.length_nil, Nat.reduceAdd, Nat.reduceSub, Nat.reduceLT, Nat.reduceLeDiff, List.cons_append, List.nil_append, List.getElem?_cons_zero, List.getElem?_cons_succ, Option.bind_some, Ent.tr, Ent.own, Ent.put, setE, killA, noAl_ow, noAl_io1, noAl_no, noAl_ro, noAl_al', killJ_cons, killJ_nil0, noRo_ow, noRo_io, noRo_no, noRo_al, mem1, notIn, noRA_ow, noRA_io, noRA_no, noRA_al, Plc, demE, List.foldl_cons, List.foldl_nil, List.map_cons, List.map_nil, List.set_cons_zero, List.set_cons_succ, endsOf, ↓outsOf, Option.map_some, plSet, TL.putAt, T.put, true_and, and_true, lst_set, lst_snoc, lm_set, lm_snoc, shOnly, shE_ow0, shE_ow1, shE_io, shE_no, Option.isSome_some, reduceIte, if_true, if_false, Bool.false_eq_true, Nat.reduceEqDiff]
  refine ⟨fun i acc ρ => acc = ((leftL kinds (List.replicate kinds.length 0)).take i).map T.int ∧ ρ = [Ent.ow 0 (Li lacks), Ent.ow 0 (Lk kinds), Ent.no, Ent.no, Ent.no, Ent.no, Ent.no, Ent.no, Ent.no, Ent.no], ⟨rfl, rfl⟩, fun i t acc ρ hi hI => ?_, fun acc ρ hI => ?_⟩
  · obtain ⟨rfl, rfl⟩ := hI
    obtain ⟨x, hx, rfl⟩ := mapk_get.mp hi
    have hxi := (List.getElem?_eq_some_iff.mp hx).1
    simp -dsimp only [g32, ↓uSeq, ↓uNext, ↓uFor, ↓uSt, ↓uStV, ↓uAu, ↓uAp, ↓uApMv, ↓uAuN, ↓uAlias, ↓uDem, ↓uBrk, ↓uCnt, ↓uNev, ↓uRet, ↓uRetN, ↓uExp, ↓uExpP, ↓uRaise1, ↓wCallX, ↓uExpX, ↓uRetX, ↓uSetX, ↓uTryE, ↓gLtT, ↓iRngD, ↓vSortP, ↓vCat, ↓vCatV, ↓gCat, ↓uSet, ↓uSetR, ↓uIf, ↓wVar, ↓wVarV, ↓wC, ↓w1, ↓w2, ↓wT, asB, ↓wChain, ↓wNil, ↓wCons, ↓wAnd, ↓wOr, ↓wNot, ↓wAndV, ↓wOrV, ↓wNotV, ↓wIf, ↓wCallP, ↓wCallV, ↓wCa, ↓wTup, ↓wLst, ↓oNon, ↓oSom, ↓wSlice, ↓wRev, ↓vP, ↓vSh, ↓vFit, ↓vaNil, ↓vaCons, ↓vLst, ↓vTup, ↓vTup0, ↓vList, ↓vRep, ↓vSlice, ↓cSl, ↓vCallN, ↓v1, ↓vCa, ↓vIx, ↓tP, ↓vAnd, ↓vOr, ↓vNot, ↓vIf, ↓vT, ↓v2, ↓vLc, ↓gI2, ↓gI2c, ↓gLen, ↓gII, ↓gI, ↓gInt1, ↓gRep, ↓gKids, ↓gIn, ↓iLst, ↓TL.iTup, ↓TL.iRng1, ↓TL.iRng2, ↓iEn, ↓iZp, ↓hName, ↓hCons, ↓hNil, ↓hTup, ↓wSl, ↓wIsi, ↓wYes, rho0, iniE, entOf, allSh, List.replicate, List.length_cons, List.length_nil, Nat.reduceAdd, Nat.reduceSub, Nat.reduceLT, Nat.reduceLeDiff, List.cons_append, List.nil_append, List.getElem?_cons_zero, List.getElem?_cons_succ, Option.bind_some, Ent.tr, Ent.own, Ent.put, setE, killA, noAl_ow, noAl_io1, noAl_no, noAl_ro, noAl_al', killJ_cons, killJ_nil0, noRo_ow, noRo_io, noRo_no, noRo_al, mem1, notIn, noRA_ow, noRA_io, noRA_no, noRA_al, Plc, demE, List.foldl_cons, List.foldl_nil, List.map_cons, List.map_nil, List.set_cons_zero, List.set_cons_succ, endsOf, ↓outsOf, Option.map_some, plSet, TL.putAt, T.put, true_and, and_true, lst_set, lst_snoc, lm_set, lm_snoc, shOnly, shE_ow0, shE_ow1, shE_io, shE_no, Option.isSome_some, reduceIte, if_true, if_false, Bool.false_eq_true, Nat.reduceEqDiff]
    refine ⟨rfl, fit0, ?_, ?_⟩
    · rw [List.length_map, List.length_take]; omega
    · refine li_snoc ?_
      rw [left_get (by simp) hxi, kAt_of hx]
      have z : aAt (List.replicate kinds.length (0 : Int)) i = 0 := by
        unfold aAt
        rw [List.getD_eq_getElem?_getD, List.getElem?_replicate]
        split <;> rfl
      rw [z, Int.sub_zero]
  obtain ⟨rfl, rfl⟩ := hI
  rw [List.length_map, show (leftL kinds (List.replicate kinds.length 0)).take kinds.length = leftL kinds (List.replicate kinds.length 0) from List.take_of_length_le (by rw [left_len (by simp)]; exact Nat.le_refl _)]
  simp -dsimp only [↓uSeq, ↓uNext, ↓uFor, ↓uSt, ↓uStV, ↓uAu, ↓uAp, ↓uApMv, ↓uAuN, ↓uAlias, ↓uDem, ↓uBrk, ↓uCnt, ↓uNev, ↓uRet, ↓uRetN, ↓uExp, ↓uExpP, ↓uRaise1, ↓wCallX, ↓uExpX, ↓uRetX, ↓uSetX, ↓uTryE, ↓gLtT, ↓iRngD, ↓vSortP, ↓vCat, ↓vCatV, ↓gCat, ↓uSet, ↓uSetR, ↓uIf, ↓wVar, ↓wVarV, ↓wC, ↓w1, ↓w2, ↓wT, asB, ↓wChain, ↓wNil, ↓wCons, ↓wAnd, ↓wOr, ↓wNot, ↓wAndV, ↓wOrV, ↓wNotV, ↓wIf, ↓wCallP, ↓wCallV, ↓wCa, ↓wTup, ↓wLst, ↓oNon, ↓oSom, ↓wSlice, ↓wRev, ↓vP, ↓vSh, ↓vFit, ↓vaNil, ↓vaCons, ↓vLst, ↓vTup, ↓vTup0, ↓vList, ↓vRep, ↓vSlice, ↓cSl, ↓vCallN, ↓v1, ↓vCa, ↓vIx, ↓tP, ↓vAnd, ↓vOr, ↓vNot, ↓vIf, ↓vT, ↓v2, ↓vLc, ↓gI2, ↓gI2c, ↓gLen, ↓gII, ↓gI, ↓gInt1, ↓gRep, ↓gKids, ↓gIn, ↓iLst, ↓TL.iTup, ↓TL.iRng1, ↓TL.iRng2, ↓iEn, ↓iZp, ↓hName, ↓hCons, ↓hNil, ↓hTup, ↓wSl, ↓wIsi, ↓wYes, rho0, iniE, entOf, allSh, List.replicate, List.length_cons, List.length_nil, Nat.reduceAdd, Nat.reduceSub, Nat.reduceLT, Nat.reduceLeDiff, List.cons_append, List.nil_append, List.getElem?_cons_zero, List.getElem?_cons_succ, Option.bind_some, Ent.tr, Ent.own, Ent.put, setE, killA, noAl_ow, noAl_io1, noAl_no, noAl_ro, noAl_al', killJ_cons, killJ_nil0, noRo_ow, noRo_io, noRo_no, noRo_al, mem1, notIn, noRA_ow, noRA_io, noRA_no, noRA_al, Plc, demE, List.foldl_cons, List.foldl_nil, List.map_cons, List.map_nil, List.set_cons_zero, List.set_cons_succ, endsOf, ↓outsOf, Option.map_some, plSet, TL.putAt, T.put, true_and, and_true, lst_set, lst_snoc, lm_set, lm_snoc, shOnly, shE_ow0, shE_ow1, shE_io, shE_no, Option.isSome_some, reduceIte, if_true, if_false, Bool.false_eq_true, Nat.reduceEqDiff]
  rw [List.length_map, Int.toNat_natCast]
  refine ⟨rfl, by omega, by omega, fun k ρ => ∃ (am : List Int) (x4 x5 x7 x8 x9 : Ent), ρ = [Ent.ow 0 (Li lacks), Ent.ow 0 (Lk kinds), Ent.ow 1 (Li (leftL kinds am)), Ent.ow 0 (.int am.sum), x4, x5, Ent.no, x7, x8, x9] ∧ LvOk lacks kinds k am ∧ gr kinds qs lacks 0 (List.replicate kinds.length 0) = gr kinds qs (lacks.drop k) k am,
    ⟨_, _, _, _, _, _, by rw [show (List.replicate kinds.length (0 : Int)).sum = 0 from by simp], lv_zero hg, rfl⟩, fun k t ρ hi hI => ?_, fun ρ hI => ?_⟩
  · obtain ⟨am0, x4, x5, x7, x8, x9, rfl, hlv, hst⟩ := hI
    obtain ⟨hkl, rfl⟩ := rgT_get.mp hi
    rw [Int.zero_add]
    have hl : lacks[k]? = some lacks[k] := List.getElem?_eq_getElem hkl
    generalize hL : lacks[k] = l at hl
    have hd : lacks.drop k = l :: lacks.drop (k + 1) := by rw [List.drop_eq_getElem_cons hkl, hL]
    rw [hd, gr] at hst
    have hp0 : pcs kinds am0 k = am0.sum := pcs_sum hlv.len fun i hi ne => by
      have lo := hlv.lo i hi
      obtain ⟨m, m1, m2, _⟩ := hlv.tight i hi (by omega)
      omega
    have t0 : TurnOk kinds qs k am0 l 0 am0 := ⟨by rw [← hp0]; exact st_start hlv.toAmOk, by rw [hp0], fun _ => by have := avN_le (kinds := kinds) (k := k) (am := am0); omega, hp0⟩
    -- behind the turns: the level is done
    have fin : ∀ am, TurnOk kinds qs k am0 l 0 am → ¬ l - am.sum > 0 → LvOk lacks kinds (k + 1) am ∧ gr kinds qs lacks 0 (List.replicate kinds.length 0) = gr kinds qs (lacks.drop (k + 1)) (k + 1) am := fun am ht hm => by
      have e1 := ht.sc
      rw [scan_le hm] at e1
      rw [← e1, if_neg hm] at hst
      have z := lv_step (l := l) hlv hq hl (by rw [← e1]; exact hm)
      rw [← e1] at z
      exact ⟨z, hst⟩
    simp -dsimp only [↓uSeq, ↓uNext, ↓uFor, ↓uSt, ↓uStV, ↓uAu, ↓uAp, ↓uApMv, ↓uAuN, ↓uAlias, ↓uDem, ↓uBrk, ↓uCnt, ↓uNev, ↓uRet, ↓uRetN, ↓uExp, ↓uExpP, ↓uRaise1, ↓wCallX, ↓uExpX, ↓uRetX, ↓uSetX, ↓uTryE, ↓gLtT, ↓iRngD, ↓vSortP, ↓vCat, ↓vCatV, ↓gCat, ↓uSet, ↓uSetR, ↓uIf, ↓wVar, ↓wVarV, ↓wC, ↓w1, ↓w2, ↓wT, asB, ↓wChain, ↓wNil, ↓wCons, ↓wAnd, ↓wOr, ↓wNot, ↓wAndV, ↓wOrV, ↓wNotV, ↓wIf, ↓wCallP, ↓wCallV, ↓wCa, ↓wTup, ↓wLst, ↓oNon, ↓oSom, ↓wSlice, ↓wRev, ↓vP, ↓vSh, ↓vFit, ↓vaNil, ↓vaCons, ↓vLst, ↓vTup, ↓vTup0, ↓vList, ↓vRep, ↓vSlice, ↓cSl, ↓vCallN, ↓v1, ↓vCa, ↓vIx, ↓tP, ↓vAnd, ↓vOr, ↓vNot, ↓vIf, ↓vT, ↓v2, ↓vLc, ↓gI2, ↓gI2c, ↓gLen, ↓gII, ↓gI, ↓gInt1, ↓gRep, ↓gKids, ↓gIn, ↓iLst, ↓TL.iTup, ↓TL.iRng1, ↓TL.iRng2, ↓iEn, ↓iZp, ↓hName, ↓hCons, ↓hNil, ↓hTup, ↓wSl, ↓wIsi, ↓wYes, rho0, iniE, entOf, allSh, List.replicate, List.length_cons, List.length_nil, Nat.reduceAdd, Nat.reduceSub, Nat.reduceLT, Nat.reduceLeDiff, List.cons_append, List.nil_append, List.getElem?_cons_zero, List.getElem?_cons_succ, Option.bind_some, Ent.tr, Ent.own, Ent.put, setE, killA, noAl_ow, noAl_io1, noAl_no, noAl_ro, noAl_al', killJ_cons, killJ_nil0, noRo_ow, noRo_io, noRo_no, noRo_al, mem1, notIn, noRA_ow, noRA_io, noRA_no, noRA_al, Plc, demE, List.foldl_cons, List.foldl_nil, List.map_cons, List.map_nil, List.set_cons_zero, List.set_cons_succ, endsOf, ↓outsOf, Option.map_some, plSet, TL.putAt, T.put, true_and, and_true, lst_set, lst_snoc, lm_set, lm_snoc, shOnly, shE_ow0, shE_ow1, shE_io, shE_no, Option.isSome_some, reduceIte, if_true, if_false, Bool.false_eq_true, Nat.reduceEqDiff]
    rw [List.length_map, show ((kinds.length : Int) + 1).toNat = kinds.length + 1 by omega]
    refine ⟨by omega, by omega, fun t ρ => ∃ (am : List Int) (x5 x7 x8 x9 : Ent), ρ = [Ent.ow 0 (Li lacks), Ent.ow 0 (Lk kinds), Ent.ow 1 (Li (leftL kinds am)), Ent.ow 0 (.int am.sum), Ent.ow 0 (.int k), x5, Ent.no, x7, x8, x9] ∧ TurnOk kinds qs k am0 l t am,
      ⟨_, _, _, _, _, rfl, t0⟩, fun t u ρ hi2 hI => ?_, fun ρ hI => ?_⟩
    · obtain ⟨am, x5, x7, x8, x9, rfl, ht⟩ := hI
      obtain ⟨htl, rfl⟩ := rgT_get.mp hi2
      have hal : am.length = kinds.length := ht.st.len
      simp -dsimp only [↓uSeq, ↓uNext, ↓uFor, ↓uSt, ↓uStV, ↓uAu, ↓uAp, ↓uApMv, ↓uAuN, ↓uAlias, ↓uDem, ↓uBrk, ↓uCnt, ↓uNev, ↓uRet, ↓uRetN, ↓uExp, ↓uExpP, ↓uRaise1, ↓wCallX, ↓uExpX, ↓uRetX, ↓uSetX, ↓uTryE, ↓gLtT, ↓iRngD, ↓vSortP, ↓vCat, ↓vCatV, ↓gCat, ↓uSet, ↓uSetR, ↓uIf, ↓wVar, ↓wVarV, ↓wC, ↓w1, ↓w2, ↓wT, asB, ↓wChain, ↓wNil, ↓wCons, ↓wAnd, ↓wOr, ↓wNot, ↓wAndV, ↓wOrV, ↓wNotV, ↓wIf, ↓wCallP, ↓wCallV, ↓wCa, ↓wTup, ↓wLst, ↓oNon, ↓oSom, ↓wSlice, ↓wRev, ↓vP, ↓vSh, ↓vFit, ↓vaNil, ↓vaCons, ↓vLst, ↓vTup, ↓vTup0, ↓vList, ↓vRep, ↓vSlice, ↓cSl, ↓vCallN, ↓v1, ↓vCa, ↓vIx, ↓tP, ↓vAnd, ↓vOr, ↓vNot, ↓vIf, ↓vT, ↓v2, ↓vLc, ↓gI2, ↓gI2c, ↓gLen, ↓gII, ↓gI, ↓gInt1, ↓gRep, ↓gKids, ↓gIn, ↓iLst, ↓TL.iTup, ↓TL.iRng1, ↓TL.iRng2, ↓iEn, ↓iZp, ↓hName, ↓hCons, ↓hNil, ↓hTup, ↓wSl, ↓wIsi, ↓wYes, rho0, iniE, entOf, allSh, List.replicate, List.length_cons, List.length_nil, Nat.reduceAdd, Nat.reduceSub, Nat.reduceLT, Nat.reduceLeDiff, List.cons_append, List.nil_append, List.getElem?_cons_zero, List.getElem?_cons_succ, Option.bind_some, Ent.tr, Ent.own, Ent.put, setE, killA, noAl_ow, noAl_io1, noAl_no, noAl_ro, noAl_al', killJ_cons, killJ_nil0, noRo_ow, noRo_io, noRo_no, noRo_al, mem1, notIn, noRA_ow, noRA_io, noRA_no, noRA_al, Plc, demE, List.foldl_cons, List.foldl_nil, List.map_cons, List.map_nil, List.set_cons_zero, List.set_cons_succ, endsOf, ↓outsOf, Option.map_some, plSet, TL.putAt, T.put, true_and, and_true, lst_set, lst_snoc, lm_set, lm_snoc, shOnly, shE_ow0, shE_ow1, shE_io, shE_no, Option.isSome_some, reduceIte, if_true, if_false, Bool.false_eq_true, Nat.reduceEqDiff]
      refine gIx_lst (x := .int l) (by rw [List.getElem?_map, hl]; rfl) ?_
      simp -dsimp only [↓uSeq, ↓uNext, ↓uFor, ↓uSt, ↓uStV, ↓uAu, ↓uAp, ↓uApMv, ↓uAuN, ↓uAlias, ↓uDem, ↓uBrk, ↓uCnt, ↓uNev, ↓uRet, ↓uRetN, ↓uExp, ↓uExpP, ↓uRaise1, ↓wCallX, ↓uExpX, ↓uRetX, ↓uSetX, ↓uTryE, ↓gLtT, ↓iRngD, ↓vSortP, ↓vCat, ↓vCatV, ↓gCat, ↓uSet, ↓uSetR, ↓uIf, ↓wVar, ↓wVarV, ↓wC, ↓w1, ↓w2, ↓wT, asB, ↓wChain, ↓wNil, ↓wCons, ↓wAnd, ↓wOr, ↓wNot, ↓wAndV, ↓wOrV, ↓wNotV, ↓wIf, ↓wCallP, ↓wCallV, ↓wCa, ↓wTup, ↓wLst, ↓oNon, ↓oSom, ↓wSlice, ↓wRev, ↓vP, ↓vSh, ↓vFit, ↓vaNil, ↓vaCons, ↓vLst, ↓vTup, ↓vTup0, ↓vList, ↓vRep, ↓vSlice, ↓cSl, ↓vCallN, ↓v1, ↓vCa, ↓vIx, ↓tP, ↓vAnd, ↓vOr, ↓vNot, ↓vIf, ↓vT, ↓v2, ↓vLc, ↓gI2, ↓gI2c, ↓gLen, ↓gII, ↓gI, ↓gInt1, ↓gRep, ↓gKids, ↓gIn, ↓iLst, ↓TL.iTup, ↓TL.iRng1, ↓TL.iRng2, ↓iEn, ↓iZp, ↓hName, ↓hCons, ↓hNil, ↓hTup, ↓wSl, ↓wIsi, ↓wYes, rho0, iniE, entOf, allSh, List.replicate, List.length_cons, List.length_nil, Nat.reduceAdd, Nat.reduceSub, Nat.reduceLT, Nat.reduceLeDiff, List.cons_append, List.nil_append, List.getElem?_cons_zero, List.getElem?_cons_succ, Option.bind_some, Ent.tr, Ent.own, Ent.put, setE, killA, noAl_ow, noAl_io1, noAl_no, noAl_ro, noAl_al', killJ_cons, killJ_nil0, noRo_ow, noRo_io, noRo_no, noRo_al, mem1, notIn, noRA_ow, noRA_io, noRA_no, noRA_al, Plc, demE, List.foldl_cons, List.foldl_nil, List.map_cons, List.map_nil, List.set_cons_zero, List.set_cons_succ, endsOf, ↓outsOf, Option.map_some, plSet, TL.putAt, T.put, true_and, and_true, lst_set, lst_snoc, lm_set, lm_snoc, shOnly, shE_ow0, shE_ow1, shE_io, shE_no, Option.isSome_some, reduceIte, if_true, if_false, Bool.false_eq_true, Nat.reduceEqDiff]
      refine ifS (fun c => ?_) fun c => ?_
      · have c := of_decide_eq_true c
        obtain ⟨z1, z2⟩ := fin am ⟨ht.st, ht.sc, fun z => by omega, ht.sum⟩ (by omega)
        exact ⟨am, _, _, _, _, _, rfl, z1, z2⟩
      have hm : l - am.sum > 0 := by
        have : ¬ l ≤ am.sum := fun z => c (decide_eq_true z)
        omega
      rw [List.length_map, Int.toNat_natCast]
      refine ⟨rfl, by omega, by omega, fun i ρ => ∃ (b : Option Nat) (x5 x8 x9 : Ent), ρ = [Ent.ow 0 (Li lacks), Ent.ow 0 (Lk kinds), Ent.ow 1 (Li (leftL kinds am)), Ent.ow 0 (.int am.sum), Ent.ow 0 (.int k), x5, Ent.no, Ent.ow 0 (bT kinds b), x8, x9] ∧ BestOk kinds k am i b,
        ⟨none, _, _, _, rfl, fun _ j hj => by omega, fun c e => nomatch e⟩, fun i u ρ hi3 hI => ?_, fun ρ hI => ?_⟩
      · obtain ⟨b, x5, x8, x9, rfl, hb⟩ := hI
        obtain ⟨hil, rfl⟩ := rgT_get.mp hi3
        rw [Int.zero_add]
        simp -dsimp only [↓uSeq, ↓uNext, ↓uFor, ↓uSt, ↓uStV, ↓uAu, ↓uAp, ↓uApMv, ↓uAuN, ↓uAlias, ↓uDem, ↓uBrk, ↓uCnt, ↓uNev, ↓uRet, ↓uRetN, ↓uExp, ↓uExpP, ↓uRaise1, ↓wCallX, ↓uExpX, ↓uRetX, ↓uSetX, ↓uTryE, ↓gLtT, ↓iRngD, ↓vSortP, ↓vCat, ↓vCatV, ↓gCat, ↓uSet, ↓uSetR, ↓uIf, ↓wVar, ↓wVarV, ↓wC, ↓w1, ↓w2, ↓wT, asB, ↓wChain, ↓wNil, ↓wCons, ↓wAnd, ↓wOr, ↓wNot, ↓wAndV, ↓wOrV, ↓wNotV, ↓wIf, ↓wCallP, ↓wCallV, ↓wCa, ↓wTup, ↓wLst, ↓oNon, ↓oSom, ↓wSlice, ↓wRev, ↓vP, ↓vSh, ↓vFit, ↓vaNil, ↓vaCons, ↓vLst, ↓vTup, ↓vTup0, ↓vList, ↓vRep, ↓vSlice, ↓cSl, ↓vCallN, ↓v1, ↓vCa, ↓vIx, ↓tP, ↓vAnd, ↓vOr, ↓vNot, ↓vIf, ↓vT, ↓v2, ↓vLc, ↓gI2, ↓gI2c, ↓gLen, ↓gII, ↓gI, ↓gInt1, ↓gRep, ↓gKids, ↓gIn, ↓iLst, ↓TL.iTup, ↓TL.iRng1, ↓TL.iRng2, ↓iEn, ↓iZp, ↓hName, ↓hCons, ↓hNil, ↓hTup, ↓wSl, ↓wIsi, ↓wYes, rho0, iniE, entOf, allSh, List.replicate, List.length_cons, List.length_nil, Nat.reduceAdd, Nat.reduceSub, Nat.reduceLT, Nat.reduceLeDiff, List.cons_append, List.nil_append, List.getElem?_cons_zero, List.getElem?_cons_succ, Option.bind_some, Ent.tr, Ent.own, Ent.put, setE, killA, noAl_ow, noAl_io1, noAl_no, noAl_ro, noAl_al', killJ_cons, killJ_nil0, noRo_ow, noRo_io, noRo_no, noRo_al, mem1, notIn, noRA_ow, noRA_io, noRA_no, noRA_al, Plc, demE, List.foldl_cons, List.foldl_nil, List.map_cons, List.map_nil, List.set_cons_zero, List.set_cons_succ, endsOf, ↓outsOf, Option.map_some, plSet, TL.putAt, T.put, true_and, and_true, lst_set, lst_snoc, lm_set, lm_snoc, shOnly, shE_ow0, shE_ow1, shE_io, shE_no, Option.isSome_some, reduceIte, if_true, if_false, Bool.false_eq_true, Nat.reduceEqDiff]
        refine gIx_k hil ?_
        rw [g30]
        simp -dsimp only [↓uSeq, ↓uNext, ↓uFor, ↓uSt, ↓uStV, ↓uAu, ↓uAp, ↓uApMv, ↓uAuN, ↓uAlias, ↓uDem, ↓uBrk, ↓uCnt, ↓uNev, ↓uRet, ↓uRetN, ↓uExp, ↓uExpP, ↓uRaise1, ↓wCallX, ↓uExpX, ↓uRetX, ↓uSetX, ↓uTryE, ↓gLtT, ↓iRngD, ↓vSortP, ↓vCat, ↓vCatV, ↓gCat, ↓uSet, ↓uSetR, ↓uIf, ↓wVar, ↓wVarV, ↓wC, ↓w1, ↓w2, ↓wT, asB, ↓wChain, ↓wNil, ↓wCons, ↓wAnd, ↓wOr, ↓wNot, ↓wAndV, ↓wOrV, ↓wNotV, ↓wIf, ↓wCallP, ↓wCallV, ↓wCa, ↓wTup, ↓wLst, ↓oNon, ↓oSom, ↓wSlice, ↓wRev, ↓vP, ↓vSh, ↓vFit, ↓vaNil, ↓vaCons, ↓vLst, ↓vTup, ↓vTup0, ↓vList, ↓vRep, ↓vSlice, ↓cSl, ↓vCallN, ↓v1, ↓vCa, ↓vIx, ↓tP, ↓vAnd, ↓vOr, ↓vNot, ↓vIf, ↓vT, ↓v2, ↓vLc, ↓gI2, ↓gI2c, ↓gLen, ↓gII, ↓gI, ↓gInt1, ↓gRep, ↓gKids, ↓gIn, ↓iLst, ↓TL.iTup, ↓TL.iRng1, ↓TL.iRng2, ↓iEn, ↓iZp, ↓hName, ↓hCons, ↓hNil, ↓hTup, ↓wSl, ↓wIsi, ↓wYes, rho0, iniE, entOf, allSh, List.replicate, List.length_cons, List.length_nil, Nat.reduceAdd, Nat.reduceSub, Nat.reduceLT, Nat.reduceLeDiff, List.cons_append, List.nil_append, List.getElem?_cons_zero, List.getElem?_cons_succ, Option.bind_some, Ent.tr, Ent.own, Ent.put, setE, killA, noAl_ow, noAl_io1, noAl_no, noAl_ro, noAl_al', killJ_cons, killJ_nil0, noRo_ow, noRo_io, noRo_no, noRo_al, mem1, notIn, noRA_ow, noRA_io, noRA_no, noRA_al, Plc, demE, List.foldl_cons, List.foldl_nil, List.map_cons, List.map_nil, List.set_cons_zero, List.set_cons_succ, endsOf, ↓outsOf, Option.map_some, plSet, TL.putAt, T.put, true_and, and_true, lst_set, lst_snoc, lm_set, lm_snoc, shOnly, shE_ow0, shE_ow1, shE_io, shE_no, Option.isSome_some, reduceIte, if_true, if_false, Bool.false_eq_true, Nat.reduceEqDiff]
        refine ifS (fun c1 => ?_) fun c1 => ?_
        · have c1 := of_decide_eq_true c1
          refine gIx_lst (x := .int ((kAt kinds i).2.2 - aAt am i)) (by rw [List.getElem?_map, left_get hal hil]; rfl) ?_
          simp -dsimp only [↓uSeq, ↓uNext, ↓uFor, ↓uSt, ↓uStV, ↓uAu, ↓uAp, ↓uApMv, ↓uAuN, ↓uAlias, ↓uDem, ↓uBrk, ↓uCnt, ↓uNev, ↓uRet, ↓uRetN, ↓uExp, ↓uExpP, ↓uRaise1, ↓wCallX, ↓uExpX, ↓uRetX, ↓uSetX, ↓uTryE, ↓gLtT, ↓iRngD, ↓vSortP, ↓vCat, ↓vCatV, ↓gCat, ↓uSet, ↓uSetR, ↓uIf, ↓wVar, ↓wVarV, ↓wC, ↓w1, ↓w2, ↓wT, asB, ↓wChain, ↓wNil, ↓wCons, ↓wAnd, ↓wOr, ↓wNot, ↓wAndV, ↓wOrV, ↓wNotV, ↓wIf, ↓wCallP, ↓wCallV, ↓wCa, ↓wTup, ↓wLst, ↓oNon, ↓oSom, ↓wSlice, ↓wRev, ↓vP, ↓vSh, ↓vFit, ↓vaNil, ↓vaCons, ↓vLst, ↓vTup, ↓vTup0, ↓vList, ↓vRep, ↓vSlice, ↓cSl, ↓vCallN, ↓v1, ↓vCa, ↓vIx, ↓tP, ↓vAnd, ↓vOr, ↓vNot, ↓vIf, ↓vT, ↓v2, ↓vLc, ↓gI2, ↓gI2c, ↓gLen, ↓gII, ↓gI, ↓gInt1, ↓gRep, ↓gKids, ↓gIn, ↓iLst, ↓TL.iTup, ↓TL.iRng1, ↓TL.iRng2, ↓iEn, ↓iZp, ↓hName, ↓hCons, ↓hNil, ↓hTup, ↓wSl, ↓wIsi, ↓wYes, rho0, iniE, entOf, allSh, List.replicate, List.length_cons, List.length_nil, Nat.reduceAdd, Nat.reduceSub, Nat.reduceLT, Nat.reduceLeDiff, List.cons_append, List.nil_append, List.getElem?_cons_zero, List.getElem?_cons_succ, Option.bind_some, Ent.tr, Ent.own, Ent.put, setE, killA, noAl_ow, noAl_io1, noAl_no, noAl_ro, noAl_al', killJ_cons, killJ_nil0, noRo_ow, noRo_io, noRo_no, noRo_al, mem1, notIn, noRA_ow, noRA_io, noRA_no, noRA_al, Plc, demE, List.foldl_cons, List.foldl_nil, List.map_cons, List.map_nil, List.set_cons_zero, List.set_cons_succ, endsOf, ↓outsOf, Option.map_some, plSet, TL.putAt, T.put, true_and, and_true, lst_set, lst_snoc, lm_set, lm_snoc, shOnly, shE_ow0, shE_ow1, shE_io, shE_no, Option.isSome_some, reduceIte, if_true, if_false, Bool.false_eq_true, Nat.reduceEqDiff]
          refine ifS (fun c2 => ?_) fun c2 => ?_
          · have hav : av kinds k am i := ⟨c1, of_decide_eq_true c2⟩
            cases b with
            | none =>
              refine ifT rfl (gIx_k hil ?_)
              rw [g31]
              exact ⟨some i, _, _, _, rfl, best_new hb hav⟩
            | some c =>
              refine ifF (fun z => Bool.false_ne_true z) (gIx_k hil ?_)
              rw [g31]
              refine ⟨[(kAt kinds i).2.1, (i : Int)], [(kAt kinds c).2.1, (c : Int)], rfl, rfl, ifS (fun q => ?_) fun q => ?_⟩
              · refine gIx_k hil ?_
                rw [g31]
                exact ⟨some i, _, _, _, rfl, best_less hb hav q⟩
              · exact ⟨some c, _, _, _, rfl, best_more hb q⟩
          · exact ⟨b, _, _, _, rfl, best_skip hb fun z => c2 (decide_eq_true z.2)⟩
        · exact ⟨b, _, _, _, rfl, best_skip hb fun z => c1 (decide_eq_true z.1)⟩
      · obtain ⟨b, x5, x8, x9, rfl, hb⟩ := hI
        rw [rgT_len] at hb
        simp -dsimp only [↓uSeq, ↓uNext, ↓uFor, ↓uSt, ↓uStV, ↓uAu, ↓uAp, ↓uApMv, ↓uAuN, ↓uAlias, ↓uDem, ↓uBrk, ↓uCnt, ↓uNev, ↓uRet, ↓uRetN, ↓uExp, ↓uExpP, ↓uRaise1, ↓wCallX, ↓uExpX, ↓uRetX, ↓uSetX, ↓uTryE, ↓gLtT, ↓iRngD, ↓vSortP, ↓vCat, ↓vCatV, ↓gCat, ↓uSet, ↓uSetR, ↓uIf, ↓wVar, ↓wVarV, ↓wC, ↓w1, ↓w2, ↓wT, asB, ↓wChain, ↓wNil, ↓wCons, ↓wAnd, ↓wOr, ↓wNot, ↓wAndV, ↓wOrV, ↓wNotV, ↓wIf, ↓wCallP, ↓wCallV, ↓wCa, ↓wTup, ↓wLst, ↓oNon, ↓oSom, ↓wSlice, ↓wRev, ↓vP, ↓vSh, ↓vFit, ↓vaNil, ↓vaCons, ↓vLst, ↓vTup, ↓vTup0, ↓vList, ↓vRep, ↓vSlice, ↓cSl, ↓vCallN, ↓v1, ↓vCa, ↓vIx, ↓tP, ↓vAnd, ↓vOr, ↓vNot, ↓vIf, ↓vT, ↓v2, ↓vLc, ↓gI2, ↓gI2c, ↓gLen, ↓gII, ↓gI, ↓gInt1, ↓gRep, ↓gKids, ↓gIn, ↓iLst, ↓TL.iTup, ↓TL.iRng1, ↓TL.iRng2, ↓iEn, ↓iZp, ↓hName, ↓hCons, ↓hNil, ↓hTup, ↓wSl, ↓wIsi, ↓wYes, rho0, iniE, entOf, allSh, List.replicate, List.length_cons, List.length_nil, Nat.reduceAdd, Nat.reduceSub, Nat.reduceLT, Nat.reduceLeDiff, List.cons_append, List.nil_append, List.getElem?_cons_zero, List.getElem?_cons_succ, Option.bind_some, Ent.tr, Ent.own, Ent.put, setE, killA, noAl_ow, noAl_io1, noAl_no, noAl_ro, noAl_al', killJ_cons, killJ_nil0, noRo_ow, noRo_io, noRo_no, noRo_al, mem1, notIn, noRA_ow, noRA_io, noRA_no, noRA_al, Plc, demE, List.foldl_cons, List.foldl_nil, List.map_cons, List.map_nil, List.set_cons_zero, List.set_cons_succ, endsOf, ↓outsOf, Option.map_some, plSet, TL.putAt, T.put, true_and, and_true, lst_set, lst_snoc, lm_set, lm_snoc, shOnly, shE_ow0, shE_ow1, shE_io, shE_no, Option.isSome_some, reduceIte, if_true, if_false, Bool.false_eq_true, Nat.reduceEqDiff]
        cases b with
        | none =>
          have e1 := ht.sc
          rw [scan_none hq ht.st.toAmOk (hb.no rfl)] at e1
          rw [← e1, if_pos hm] at hst
          rw [hst] at h
          exact ifT rfl ⟨rfl, fit0, rfl, fit0, h⟩
        | some c =>
          obtain ⟨cl, cav, cmin⟩ := hb.yes c rfl
          have lg : (List.map T.int (leftL kinds am))[c]? = some (.int ((kAt kinds c).2.2 - aAt am c)) := by rw [List.getElem?_map, left_get hal cl]; rfl
          refine ifF (fun z => Bool.false_ne_true z) ?_
          show gIx (Li (leftL kinds am)) (.int (c : Int)) _
          refine gIx_lst lg (gIx_lst (x := .int l) (by rw [List.getElem?_map, hl]; rfl) ?_)
          refine ⟨rfl, ?_⟩
          show gIx (Li (leftL kinds am)) (.int (c : Int)) _
          refine gIx_lst lg ⟨rfl, ?_⟩
          show match ixN (List.map T.int (leftL kinds am)).length (c : Int) with | some q => _ | none => _
          rw [ixN_nat (by rw [List.length_map, left_len hal]; exact cl)]
          have em : (if l - am.sum < (kAt kinds c).2.2 - aAt am c then l - am.sum else (kAt kinds c).2.2 - aAt am c) = mn (l - am.sum) ((kAt kinds c).2.2 - aAt am c) := by
            unfold mn; split <;> split <;> omega
          rw [em]
          have z := turn_step hq ht hm hb
          have bl : c < am.length := by omega
          have e1 : (leftL kinds am).set c ((kAt kinds c).2.2 - aAt am c - mn (l - am.sum) ((kAt kinds c).2.2 - aAt am c)) = leftL kinds (am.set c (aAt am c + mn (l - am.sum) ((kAt kinds c).2.2 - aAt am c))) := by
            rw [← left_set hal cl]; congr 1; omega
          have e2 : am.sum + mn (l - am.sum) ((kAt kinds c).2.2 - aAt am c) = (am.set c (aAt am c + mn (l - am.sum) ((kAt kinds c).2.2 - aAt am c))).sum := by rw [sum_set bl]; omega
          refine ⟨fit0, rfl, ?_⟩
          rw [e1, e2]
          exact ⟨_, _, _, _, _, rfl, z⟩
    · obtain ⟨am, x5, x7, x8, x9, rfl, ht⟩ := hI
      rw [rgT_len] at ht
      have hm : ¬ l - am.sum > 0 := fun z => by have := ht.few z; omega
      obtain ⟨z1, z2⟩ := fin am ⟨ht.st, ht.sc, fun z => absurd z hm, ht.sum⟩ hm
      exact ⟨am, _, _, _, _, _, rfl, z1, z2⟩
  · obtain ⟨am, x4, x5, x7, x8, x9, rfl, hlv, hst⟩ := hI
    rw [rgT_len] at hlv hst
    rw [List.drop_eq_nil_of_le (Nat.le_refl _), gr] at hst
    rw [hst] at h
    simp -dsimp only [↓uSeq, ↓uNext, ↓uFor, ↓uSt, ↓uStV, ↓uAu, ↓uAp, ↓uApMv, ↓uAuN, ↓uAlias, ↓uDem, ↓uBrk, ↓uCnt, ↓uNev, ↓uRet, ↓uRetN, ↓uExp, ↓uExpP, ↓uRaise1, ↓wCallX, ↓uExpX, ↓uRetX, ↓uSetX, ↓uTryE, ↓gLtT, ↓iRngD, ↓vSortP, ↓vCat, ↓vCatV, ↓gCat, ↓uSet, ↓uSetR, ↓uIf, ↓wVar, ↓wVarV, ↓wC, ↓w1, ↓w2, ↓wT, asB, ↓wChain, ↓wNil, ↓wCons, ↓wAnd, ↓wOr, ↓wNot, ↓wAndV, ↓wOrV, ↓wNotV, ↓wIf, ↓wCallP, ↓wCallV, ↓wCa, ↓wTup, ↓wLst, ↓oNon, ↓oSom, ↓wSlice, ↓wRev, ↓vP, ↓vSh, ↓vFit, ↓vaNil, ↓vaCons, ↓vLst, ↓vTup, ↓vTup0, ↓vList, ↓vRep, ↓vSlice, ↓cSl, ↓vCallN, ↓v1, ↓vCa, ↓vIx, ↓tP, ↓vAnd, ↓vOr, ↓vNot, ↓vIf, ↓vT, ↓v2, ↓vLc, ↓gI2, ↓gI2c, ↓gLen, ↓gII, ↓gI, ↓gInt1, ↓gRep, ↓gKids, ↓gIn, ↓iLst, ↓TL.iTup, ↓TL.iRng1, ↓TL.iRng2, ↓iEn, ↓iZp, ↓hName, ↓hCons, ↓hNil, ↓hTup, ↓wSl, ↓wIsi, ↓wYes, rho0, iniE, entOf, allSh, List.replicate, List.length_cons, List.length_nil, Nat.reduceAdd, Nat.reduceSub, Nat.reduceLT, Nat.reduceLeDiff, List.cons_append, List.nil_append, List.getElem?_cons_zero, List.getElem?_cons_succ, Option.bind_some, Ent.tr, Ent.own, Ent.put, setE, killA, noAl_ow, noAl_io1, noAl_no, noAl_ro, noAl_al', killJ_cons, killJ_nil0, noRo_ow, noRo_io, noRo_no, noRo_al, mem1, notIn, noRA_ow, noRA_io, noRA_no, noRA_al, Plc, demE, List.foldl_cons, List.foldl_nil, List.map_cons, List.map_nil, List.set_cons_zero, List.set_cons_succ, endsOf, ↓outsOf, Option.map_some, plSet, TL.putAt, T.put, true_and, and_true, lst_set, lst_snoc, lm_set, lm_snoc, shOnly, shE_ow0, shE_ow1, shE_io, shE_no, Option.isSome_some, reduceIte, if_true, if_false, Bool.false_eq_true, Nat.reduceEqDiff]
    have hal : am.length = kinds.length := hlv.len
    rw [List.length_map, Int.toNat_natCast]
    refine ⟨by omega, by omega, fun i acc ρ => acc = (am.take i).map T.int ∧ ∃ x4 x5 x7 x9, ρ = [Ent.ow 0 (Li lacks), Ent.ow 0 (Lk kinds), Ent.ow 1 (Li (leftL kinds am)), Ent.ow 0 (.int am.sum), x4, x5, Ent.no, x7, Ent.no, x9], ⟨rfl, _, _, _, _, rfl⟩, fun i t acc ρ hi hI => ?_, fun acc ρ hI => ?_⟩
    · obtain ⟨rfl, x4, x5, x7, x9, rfl⟩ := hI
      obtain ⟨hil, rfl⟩ := rgT_get.mp hi
      rw [Int.zero_add]
      simp -dsimp only [↓uSeq, ↓uNext, ↓uFor, ↓uSt, ↓uStV, ↓uAu, ↓uAp, ↓uApMv, ↓uAuN, ↓uAlias, ↓uDem, ↓uBrk, ↓uCnt, ↓uNev, ↓uRet, ↓uRetN, ↓uExp, ↓uExpP, ↓uRaise1, ↓wCallX, ↓uExpX, ↓uRetX, ↓uSetX, ↓uTryE, ↓gLtT, ↓iRngD, ↓vSortP, ↓vCat, ↓vCatV, ↓gCat, ↓uSet, ↓uSetR, ↓uIf, ↓wVar, ↓wVarV, ↓wC, ↓w1, ↓w2, ↓wT, asB, ↓wChain, ↓wNil, ↓wCons, ↓wAnd, ↓wOr, ↓wNot, ↓wAndV, ↓wOrV, ↓wNotV, ↓wIf, ↓wCallP, ↓wCallV, ↓wCa, ↓wTup, ↓wLst, ↓oNon, ↓oSom, ↓wSlice, ↓wRev, ↓vP, ↓vSh, ↓vFit, ↓vaNil, ↓vaCons, ↓vLst, ↓vTup, ↓vTup0, ↓vList, ↓vRep, ↓vSlice, ↓cSl, ↓vCallN, ↓v1, ↓vCa, ↓vIx, ↓tP, ↓vAnd, ↓vOr, ↓vNot, ↓vIf, ↓vT, ↓v2, ↓vLc, ↓gI2, ↓gI2c, ↓gLen, ↓gII, ↓gI, ↓gInt1, ↓gRep, ↓gKids, ↓gIn, ↓iLst, ↓TL.iTup, ↓TL.iRng1, ↓TL.iRng2, ↓iEn, ↓iZp, ↓hName, ↓hCons, ↓hNil, ↓hTup, ↓wSl, ↓wIsi, ↓wYes, rho0, iniE, entOf, allSh, List.replicate, List.length_cons, List.length_nil, Nat.reduceAdd, Nat.reduceSub, Nat.reduceLT, Nat.reduceLeDiff, List.cons_append, List.nil_append, List.getElem?_cons_zero, List.getElem?_cons_succ, Option.bind_some, Ent.tr, Ent.own, Ent.put, setE, killA, noAl_ow, noAl_io1, noAl_no, noAl_ro, noAl_al', killJ_cons, killJ_nil0, noRo_ow, noRo_io, noRo_no, noRo_al, mem1, notIn, noRA_ow, noRA_io, noRA_no, noRA_al, Plc, demE, List.foldl_cons, List.foldl_nil, List.map_cons, List.map_nil, List.set_cons_zero, List.set_cons_succ, endsOf, ↓outsOf, Option.map_some, plSet, TL.putAt, T.put, true_and, and_true, lst_set, lst_snoc, lm_set, lm_snoc, shOnly, shE_ow0, shE_ow1, shE_io, shE_no, Option.isSome_some, reduceIte, if_true, if_false, Bool.false_eq_true, Nat.reduceEqDiff]
      refine gIx_k hil ?_
      rw [g32]
      refine gIx_lst (x := .int ((kAt kinds i).2.2 - aAt am i)) (by rw [List.getElem?_map, left_get hal hil]; rfl) ?_
      refine ⟨rfl, fit0, ?_, ?_, _, _, _, _, rfl⟩
      · rw [List.length_map, List.length_take]; omega
      · rw [show (kAt kinds i).2.2 - ((kAt kinds i).2.2 - aAt am i) = aAt am i by omega]
        exact li_snoc (aAt_get (by omega))
    · obtain ⟨rfl, x4, x5, x7, x9, rfl⟩ := hI
      rw [rgT_len, ← hal, take_len]
      exact h
end
end K89
set_option Elab.async false
set_option linter.all false
set_option maxRecDepth 100000
namespace K89
open PySem PySem.Spec PyProof.Rows L2 TL
/-! ### the law's own reckoning of prices -/
abbrev PA' := K3 × Int
def frStep (f : List Int) (x : PA') : List Int := f.set x.1.1.toNat (aAt f x.1.1.toNat + x.2)
def freshF (n : Nat) (l : List PA') : List Int := l.foldl frStep (List.replicate (n + 1) 0)
theorem fr_len : ∀ (l : List PA') (f : List Int), (l.foldl frStep f).length = f.length
  | [], _ => rfl
  | x :: l, f => by rw [List.foldl_cons, fr_len l]; unfold frStep; simp
theorem take_sum_set {f : List Int} {i k : Nat} {v : Int} (h : i < f.length) : ((f.set i v).take k).sum = (f.take k).sum + (if i < k then v - aAt f i else 0) := by
  induction f generalizing i k with
  | nil => simp at h
  | cons a f ih =>
    cases k with
    | zero => simp
    | succ k =>
      cases i with
      | zero => rw [List.set_cons_zero, List.take_succ_cons, List.take_succ_cons, List.sum_cons, List.sum_cons, if_pos (by omega)]; show _ = _ + (v - a); omega
      | succ i =>
        rw [List.set_cons_succ, List.take_succ_cons, List.take_succ_cons, List.sum_cons, List.sum_cons, ih (by simpa using h)]
        show _ = _ + if i + 1 < k + 1 then v - aAt f i else 0
        by_cases q : i < k
        · rw [if_pos q, if_pos (by omega)]; omega
        · rw [if_neg q, if_neg (by omega)]; omega
theorem fr_sum {n k : Nat} : ∀ (l : List PA') (f : List Int), f.length = n + 1 → (∀ x ∈ l, 0 ≤ x.1.1 ∧ x.1.1 ≤ n) → ((l.foldl frStep f).take (k + 1)).sum = (f.take (k + 1)).sum + ((l.filter fun x => decide (x.1.1 ≤ (k : Int))).map (·.2)).sum
  | [], f, _, _ => by simp
  | x :: l, f, hf, hl => by
    have hx := hl x List.mem_cons_self
    rw [List.foldl_cons, fr_sum l (frStep f x) (by unfold frStep; rw [List.length_set]; exact hf) (fun y hy => hl y (List.mem_cons_of_mem _ hy))]
    have e : ((frStep f x).take (k + 1)).sum = (f.take (k + 1)).sum + (if x.1.1 ≤ (k : Int) then x.2 else 0) := by
      unfold frStep
      rw [take_sum_set (by omega)]
      by_cases q : x.1.1 ≤ (k : Int)
      · rw [if_pos q, if_pos (by omega)]; omega
      · rw [if_neg q, if_neg (by omega)]
    rw [e, List.filter_cons]
    by_cases q : x.1.1 ≤ (k : Int)
    · rw [if_pos q, if_pos (decide_eq_true q), List.map_cons, List.sum_cons]; omega
    · rw [if_neg q, if_neg (by simpa using q)]; omega
theorem fresh_pcs {n k : Nat} {kinds : List K3} {am : List Int} (hg : ∀ x ∈ kinds, gk1 n x) : ((freshF n (kinds.zip am)).take (k + 1)).sum = pcs kinds am k := by
  unfold freshF
  rw [fr_sum (n := n) (kinds.zip am) _ (by simp) (fun x hx => by
    have := (hg x.1 (List.of_mem_zip hx).1).1
    omega)]
  have z : ((List.replicate (n + 1) (0 : Int)).take (k + 1)).sum = 0 := by rw [List.take_replicate]; simp
  rw [z, Int.zero_add]; rfl
theorem last_rec {tl : List Bool} {k : Nat} {b : Bool} (h : tl[k]? = some b) : lastN tl k = if b = true then k else lastN tl (k + 1) := by
  have hk := (List.getElem?_eq_some_iff.mp h).1
  unfold lastN
  have e : tl.drop k = b :: tl.drop (k + 1) := by
    rw [List.drop_eq_getElem_cons hk]
    congr 1
    rw [List.getElem?_eq_getElem hk] at h
    exact Option.some.inj h
  rw [e, List.findIdx_cons]
  cases b with
  | true => rfl
  | false =>
    show k + (List.findIdx id (tl.drop (k + 1)) + 1) = k + 1 + _
    omega
theorem last_end {tl : List Bool} : lastN tl tl.length = tl.length := by
  unfold lastN
  rw [List.drop_eq_nil_of_le (Nat.le_refl _)]; rfl
def untilL (tl : List Bool) (i : Nat) : List Int := (List.range (tl.length + 1)).map fun k => if tl.length - i ≤ k then (lastN tl k : Int) else tl.length
theorem until_len {tl : List Bool} {i : Nat} : (untilL tl i).length = tl.length + 1 := by unfold untilL; simp
theorem until_get {tl : List Bool} {i k : Nat} (h : k ≤ tl.length) : (untilL tl i)[k]? = some (if tl.length - i ≤ k then (lastN tl k : Int) else tl.length) := by
  unfold untilL
  rw [List.getElem?_map, List.getElem?_range (by omega)]; rfl
theorem until_0 {tl : List Bool} : untilL tl 0 = List.replicate (tl.length + 1) (tl.length : Int) := by
  unfold untilL
  apply List.ext_getElem?
  intro k
  rw [List.getElem?_map, List.getElem?_replicate]
  by_cases h : k < tl.length + 1
  · rw [List.getElem?_range h, if_pos h]
    show some (if tl.length - 0 ≤ k then (lastN tl k : Int) else tl.length) = some _
    by_cases q : tl.length - 0 ≤ k
    · rw [if_pos q, show k = tl.length by omega, last_end]
    · rw [if_neg q]
  · rw [List.getElem?_eq_none_iff.mpr (by simp; omega), if_neg h]; rfl
theorem until_step {tl : List Bool} {i k : Nat} {b : Bool} (hk : k + i + 1 = tl.length) (h : tl[k]? = some b) : (untilL tl i).set k (if b = true then (k : Int) else lastN tl (k + 1)) = untilL tl (i + 1) := by
  apply List.ext_getElem?
  intro j
  rw [List.getElem?_set, until_len]
  by_cases e : k = j
  · subst e
    rw [if_pos rfl, if_pos (show k < tl.length + 1 by omega), until_get (by omega), if_pos (show tl.length - (i + 1) ≤ k by omega), last_rec h]
    cases b <;> rfl
  · rw [if_neg e]
    by_cases q : j ≤ tl.length
    · rw [until_get q, until_get q]
      by_cases q2 : tl.length - i ≤ j
      · rw [if_pos q2, if_pos (by omega)]
      · rw [if_neg q2, if_neg (by omega)]
    · rw [List.getElem?_eq_none_iff.mpr (by rw [until_len]; omega), List.getElem?_eq_none_iff.mpr (by rw [until_len]; omega)]
def wStep (tl : List Bool) (f : List Int) (x : PA') : List Int := if x.2 > 0 then f.set (lastN tl x.1.1.toNat) (mx (aAt f (lastN tl x.1.1.toNat)) x.1.2.1) else f
def worthF (tl : List Bool) (n : Nat) (l : List PA') : List Int := l.foldl (wStep tl) (List.replicate (n + 1) 0)
theorem w_len {tl : List Bool} : ∀ (l : List PA') (f : List Int), (l.foldl (wStep tl) f).length = f.length
  | [], _ => rfl
  | x :: l, f => by
    rw [List.foldl_cons, w_len l]
    unfold wStep
    split <;> simp
theorem wStep_len {tl : List Bool} {f : List Int} {x : PA'} : (wStep tl f x).length = f.length := by
  unfold wStep
  split <;> simp
theorem mx_le {a b v : Int} : mx a b ≤ v ↔ a ≤ v ∧ b ≤ v := by unfold mx; split <;> omega
theorem w_le {tl : List Bool} {m : Nat} {v : Int} : ∀ (l : List PA') (f : List Int), m < f.length → (∀ x ∈ l, x.2 > 0 → lastN tl x.1.1.toNat < f.length) → (aAt (l.foldl (wStep tl) f) m ≤ v ↔ aAt f m ≤ v ∧ ∀ x ∈ l, x.2 > 0 → lastN tl x.1.1.toNat = m → x.1.2.1 ≤ v)
  | [], f, _, _ => by simp
  | x :: l, f, hm, hl => by
    rw [List.foldl_cons, w_le l (wStep tl f x) (by rw [wStep_len]; exact hm) (fun y hy z => by rw [wStep_len]; exact hl y (List.mem_cons_of_mem _ hy) z)]
    have e : aAt (wStep tl f x) m ≤ v ↔ aAt f m ≤ v ∧ (x.2 > 0 → lastN tl x.1.1.toNat = m → x.1.2.1 ≤ v) := by
      unfold wStep
      by_cases q : x.2 > 0
      · rw [if_pos q, aAt_set (hl x List.mem_cons_self q)]
        by_cases e : lastN tl x.1.1.toNat = m
        · rw [if_pos e, mx_le, e]
          exact ⟨fun h => ⟨h.1, fun _ _ => h.2⟩, fun h => ⟨h.1, h.2 q rfl⟩⟩
        · rw [if_neg e]
          exact ⟨fun h => ⟨h, fun _ z => absurd z e⟩, fun h => h.1⟩
      · rw [if_neg q]
        exact ⟨fun h => ⟨h, fun z => absurd z q⟩, fun h => h.1⟩
    rw [e]
    constructor
    · rintro ⟨⟨h1, h2⟩, h3⟩
      refine ⟨h1, fun y hy => ?_⟩
      rcases List.mem_cons.mp hy with rfl | hy
      · exact h2
      · exact h3 y hy
    · rintro ⟨h1, h2⟩
      exact ⟨⟨h1, h2 x List.mem_cons_self⟩, fun y hy => h2 y (List.mem_cons_of_mem _ hy)⟩
theorem aAt_raise {f : List Int} {m k : Nat} {p : Int} (h : k < f.length) : aAt (raiseTo f m p) k = if k ≤ m then mx (aAt f k) p else aAt f k := by
  refine aAt_of ?_
  unfold raiseTo
  rw [List.getElem?_mapIdx, aAt_get h]; rfl
theorem f_le {tl : List Bool} {m : Nat} {v : Int} : ∀ (l : List PA') (f : List Int), m < f.length → (aAt (l.foldl (foundStep tl) f) m ≤ v ↔ aAt f m ≤ v ∧ ∀ x ∈ l, x.2 > 0 → m ≤ lastN tl x.1.1.toNat → x.1.2.1 ≤ v)
  | [], f, _ => by simp
  | x :: l, f, hm => by
    rw [List.foldl_cons, f_le l (foundStep tl f x) (by unfold foundStep; split; · rw [raiseTo_len]; exact hm
                                                       · exact hm)]
    have e : aAt (foundStep tl f x) m ≤ v ↔ aAt f m ≤ v ∧ (x.2 > 0 → m ≤ lastN tl x.1.1.toNat → x.1.2.1 ≤ v) := by
      unfold foundStep
      by_cases q : x.2 > 0
      · rw [if_pos q, aAt_raise hm]
        by_cases e : m ≤ lastN tl x.1.1.toNat
        · rw [if_pos e, mx_le]
          exact ⟨fun h => ⟨h.1, fun _ _ => h.2⟩, fun h => ⟨h.1, h.2 q e⟩⟩
        · rw [if_neg e]
          exact ⟨fun h => ⟨h, fun _ z => absurd z e⟩, fun h => h.1⟩
      · rw [if_neg q]
        exact ⟨fun h => ⟨h, fun z => absurd z q⟩, fun h => h.1⟩
    rw [e]
    constructor
    · rintro ⟨⟨h1, h2⟩, h3⟩
      refine ⟨h1, fun y hy => ?_⟩
      rcases List.mem_cons.mp hy with rfl | hy
      · exact h2
      · exact h3 y hy
    · rintro ⟨h1, h2⟩
      exact ⟨⟨h1, h2 x List.mem_cons_self⟩, fun y hy => h2 y (List.mem_cons_of_mem _ hy)⟩
/-- greatest from here on -/
def sufL : List Int → List Int
  | [] => []
  | [a] => [a]
  | a :: b :: r => mx a ((sufL (b :: r)).headD 0) :: sufL (b :: r)
theorem suf_len : ∀ l : List Int, (sufL l).length = l.length
  | [] => rfl
  | [a] => rfl
  | a :: b :: r => by rw [sufL, List.length_cons, suf_len (b :: r)]; rfl
theorem suf_cons {a : Int} {l : List Int} (h : 0 < l.length) : sufL (a :: l) = mx a (aAt (sufL l) 0) :: sufL l := by
  cases l with
  | nil => simp at h
  | cons b r =>
    rw [sufL]
    congr 2
    cases e : sufL (b :: r) with
    | nil => rfl
    | cons c s => rfl
theorem suf_le {v : Int} : ∀ {l : List Int} {i : Nat}, i < l.length → (aAt (sufL l) i ≤ v ↔ ∀ m, i ≤ m → m < l.length → aAt l m ≤ v)
  | [], i, h => by simp at h
  | [a], i, h => by
    have e : i = 0 := by simpa using h
    subst e
    constructor
    · intro h m _ hm
      have : m = 0 := by simpa using hm
      subst this
      exact h
    · intro h
      exact h 0 (Nat.le_refl _) (by simp)
  | a :: b :: r, 0, h => by
    rw [suf_cons (by simp)]
    show mx a (aAt (sufL (b :: r)) 0) ≤ v ↔ _
    rw [mx_le, suf_le (l := b :: r) (i := 0) (by simp)]
    constructor
    · rintro ⟨h1, h2⟩ m _ hm
      cases m with
      | zero => exact h1
      | succ m => exact h2 m (Nat.zero_le _) (by simpa using hm)
    · intro h
      exact ⟨h 0 (Nat.le_refl _) (by simp), fun m _ hm => h (m + 1) (Nat.zero_le _) (by simpa using hm)⟩
  | a :: b :: r, i + 1, h => by
    rw [suf_cons (by simp)]
    show aAt (sufL (b :: r)) i ≤ v ↔ _
    rw [suf_le (l := b :: r) (i := i) (by simpa using h)]
    constructor
    · intro h m h1 hm
      cases m with
      | zero => omega
      | succ m => exact h m (by omega) (by simpa using hm)
    · intro h m h1 hm
      exact h (m + 1) (by omega) (by simpa using hm)
theorem worth_found {tl : List Bool} {n : Nat} {l : List PA'} (hl : ∀ x ∈ l, x.2 > 0 → lastN tl x.1.1.toNat < n) : sufL (worthF tl n l) = foundF tl n l := by
  have l1 : (sufL (worthF tl n l)).length = n + 1 := by rw [suf_len]; unfold worthF; rw [w_len]; simp
  have l2 : (foundF tl n l).length = n + 1 := by unfold foundF; rw [foundF_len]; simp
  have l3 : (worthF tl n l).length = n + 1 := by unfold worthF; rw [w_len]; simp
  have z : ∀ m, aAt (List.replicate (n + 1) (0 : Int)) m = 0 := fun i => by
    unfold aAt
    rw [List.getD_eq_getElem?_getD, List.getElem?_replicate]
    split <;> rfl
  have key : ∀ k v, k ≤ n → (aAt (sufL (worthF tl n l)) k ≤ v ↔ aAt (foundF tl n l) k ≤ v) := fun k v hk => by
    rw [suf_le (by rw [l3]; omega)]
    unfold foundF
    rw [f_le l _ (by simp; omega), z]
    constructor
    · intro h
      refine ⟨?_, fun x hx hp hk' => ?_⟩
      · have h0 := h k (Nat.le_refl _) (by rw [l3]; omega)
        unfold worthF at h0
        rw [w_le l _ (by simp; omega) (fun y hy q => by have := hl y hy q; simp; omega), z] at h0
        exact h0.1
      · have hlx := hl x hx hp
        have h0 := h (lastN tl x.1.1.toNat) hk' (by rw [l3]; omega)
        unfold worthF at h0
        rw [w_le l _ (by simp; omega) (fun y hy q => by have := hl y hy q; simp; omega), z] at h0
        exact h0.2 x hx hp rfl
    · rintro ⟨h1, h2⟩ m hm hm2
      rw [l3] at hm2
      unfold worthF
      rw [w_le l _ (by simp; omega) (fun y hy q => by have := hl y hy q; simp; omega), z]
      exact ⟨h1, fun x hx hp e => h2 x hx hp (by omega)⟩
  apply List.ext_getElem?
  intro k
  by_cases hk : k ≤ n
  · rw [aAt_get (by rw [l1]; omega), aAt_get (by rw [l2]; omega)]
    congr 1
    exact Int.le_antisymm ((key k _ hk).mpr (Int.le_refl _)) ((key k _ hk).mp (Int.le_refl _))
  · rw [List.getElem?_eq_none_iff.mpr (by rw [l1]; omega), List.getElem?_eq_none_iff.mpr (by rw [l2]; omega)]
/-- behind i turns down -/
def sufAt (w0 : List Int) (n i : Nat) : List Int := w0.take (n - i) ++ sufL (w0.drop (n - i))
theorem sufAt_len {w0 : List Int} {n i : Nat} : (sufAt w0 n i).length = w0.length := by
  unfold sufAt
  rw [List.length_append, suf_len, List.length_take, List.length_drop]; omega
theorem sufAt_0 {w0 : List Int} {n : Nat} (h : w0.length = n + 1) : sufAt w0 n 0 = w0 := by
  unfold sufAt
  have e : w0.drop (n - 0) = [w0[n]] := by
    rw [Nat.sub_zero, List.drop_eq_getElem_cons (by omega), List.drop_eq_nil_of_le (by omega)]
  rw [e]
  show w0.take (n - 0) ++ [w0[n]] = w0
  rw [← e, List.take_append_drop]
theorem sufAt_n {w0 : List Int} {n : Nat} : sufAt w0 n n = sufL w0 := by unfold sufAt; simp
theorem sufAt_lo {w0 : List Int} {n i k : Nat} (h : w0.length = n + 1) (hk : k + i + 1 = n) : (sufAt w0 n i)[k]? = some (aAt w0 k) := by
  unfold sufAt
  rw [List.getElem?_append_left (by rw [List.length_take]; omega), List.getElem?_take_of_lt (by omega)]
  exact aAt_get (by omega)
theorem sufAt_hi {w0 : List Int} {n i k : Nat} (h : w0.length = n + 1) (hk : k + i + 1 = n) : (sufAt w0 n i)[k + 1]? = some (aAt (sufL (w0.drop (k + 1))) 0) := by
  unfold sufAt
  rw [show n - i = k + 1 by omega, List.getElem?_append_right (by rw [List.length_take]; omega), List.length_take, show k + 1 - min (k + 1) w0.length = 0 by omega]
  exact aAt_get (by rw [suf_len, List.length_drop]; omega)
theorem sufAt_step {w0 : List Int} {n i k : Nat} (h : w0.length = n + 1) (hk : k + i + 1 = n) : (sufAt w0 n i).set k (mx (aAt w0 k) (aAt (sufL (w0.drop (k + 1))) 0)) = sufAt w0 n (i + 1) := by
  unfold sufAt
  have e1 : n - i = k + 1 := by omega
  have e2 : n - (i + 1) = k := by omega
  have kl : k < w0.length := by omega
  have e3 : w0.drop k = aAt w0 k :: w0.drop (k + 1) := by
    rw [List.drop_eq_getElem_cons kl]
    congr 1
    have z := aAt_get kl
    rw [List.getElem?_eq_getElem kl] at z
    exact Option.some.inj z
  rw [e1, e2, e3, suf_cons (by rw [List.length_drop]; omega), List.set_append_left _ _ (by rw [List.length_take]; omega)]
  have e4 : (w0.take (k + 1)).set k (mx (aAt w0 k) (aAt (sufL (w0.drop (k + 1))) 0)) = w0.take k ++ [mx (aAt w0 k) (aAt (sufL (w0.drop (k + 1))) 0)] := by
    rw [← take_snoc (aAt_get kl), List.set_append_right _ _ (by rw [List.length_take]; omega), List.length_take, show k - min k w0.length = 0 by omega]; rfl
  rw [e4, List.append_assoc]; rfl
end K89
set_option Elab.async false
set_option linter.all false
set_option maxRecDepth 100000
namespace K89
open PySem PySem.Spec PyProof.Rows L2 L2H TL
theorem rep_flat {n : Nat} {a : Int} : (List.replicate n [T.int a]).flatten = (List.replicate n a).map T.int := by
  induction n with
  | zero => rfl
  | succ n ih => rw [List.replicate_succ, List.flatten_cons, ih, List.replicate_succ]; rfl
theorem gIx_b {bs : List Bool} {j : Nat} {b : Bool} {R : T → Prop} (h : bs[j]? = some b) (hR : R (.bl b)) : gIx (Lb bs) (.int (j : Nat)) R :=
  gIx_lst (by rw [List.getElem?_map, h]; rfl) hR
theorem gIx_i {xs : List Int} {j : Nat} {x : Int} {R : T → Prop} (h : xs[j]? = some x) (hR : R (.int x)) : gIx (Li xs) (.int (j : Nat)) R :=
  gIx_lst (by rw [List.getElem?_map, h]; rfl) hR
section
variable {P : Program} {w : World} {K : PySem.W.Frag} {mg : Str → Option Value} {base : Heap}
def W__law_answer : FnT := fun ts R => ∃ (lacks : List Int) (kinds : List K3) (qs : List P2), ts = [Li lacks, Lk kinds] ∧ lacks.length ≤ 1000 ∧ goodK lacks.length kinds ∧ IsCheap kinds qs ∧ R 2 (stockT qs lacks kinds) []
set_option maxHeartbeats 4000000 in
theorem ok__law_answer {k : Nat} (G : Gs K mg) : FnOk P w K mg base CX0 (k + 2) G.g__law_answer.f G.g__law_answer.d ["lacks", "kinds"] (spT K (allSh 2) W__law_answer) := by
  refine fnT (k := k + 1) G.g__law_answer.F sc__law_answer rfl (fun X cdv A outer s H E hX hr => ?_)
  subst hX
  refine ⟨_, (ts_cons (ts_set 2 sc__law_answer.nd rfl (.inl rfl) (tv_callN (ok__law_amounts (k := k + 0) G) hr (by rfl) G.g__law_amounts.g G.g__law_amounts.F.kp G.g__law_amounts.b (tpa_cons (tp_var 0) (tpa_cons (tp_var 1) tpa_nil))))
      (ts_cons (ts_if (tvt_p (tpt_val (tp_isi .tup (by rfl) G.z_isinstance (by rfl) G.z_tuple (by decide +kernel) (tp_var 2)))) (ts_one (ts_ret (tv_fit 2 (tv_var 2)))) ts_nil)
      (ts_cons (ts_set 3 sc__law_answer.nd rfl (.inl rfl) (tv_p (tp_callB call_len_seq caT_len (by rfl) G.z_len PySem.boot_len (tpa_cons (tp_var 0) tpa_nil))))
      (ts_cons (ts_set 4 sc__law_answer.nd rfl (.inl rfl) (tv_rep (tp_lst (tpa_cons tp_int tpa_nil)) (tp_op op_add opT_int (tp_var 3) tp_int)))
      (ts_cons (ts_for PassesOwn.never rfl (ti_rng1 (by rfl) G.z_range (tp_callB call_len_seq caT_len (by rfl) G.z_len PySem.boot_len (tpa_cons (tp_var 1) tpa_nil))) (tg_name 5 sc__law_answer.nd rfl (.inl rfl)) (ts_one (ts_store 4 (tv_p (tp_op op_add opT_int (tp_ix (tp_var 4) (tp_ix (tp_ix (tp_var 1) (tp_var 5) (fun _ _ => rfl)) tp_int (fun _ _ => rfl)) (fun _ _ => rfl)) (tp_ix (tp_var 2) (tp_var 5) (fun _ _ => rfl)))) (tp_ix (tp_ix (tp_var 1) (tp_var 5) (fun _ _ => rfl)) tp_int (fun _ _ => rfl)))))
      (ts_cons (ts_set 6 sc__law_answer.nd rfl (.inl rfl) (tv_lst 0 tva_nil (by simp) (by decide)))
      (ts_cons (ts_set 7 sc__law_answer.nd rfl (.inl rfl) (tv_p tp_int))
      (ts_cons (ts_for PassesOwn.never rfl (ti_rng1 (by rfl) G.z_range (tp_var 3)) (tg_name 8 sc__law_answer.nd rfl (.inl rfl)) (ts_cons (ts_set 7 sc__law_answer.nd rfl (.inl rfl) (tv_p (tp_op op_add opT_int (tp_var 7) (tp_ix (tp_var 4) (tp_var 8) (fun _ _ => rfl)))))
      (ts_one (ts_app 6 (tv_p (tp_cmp op_eq opT_eqS (tp_var 7) (tp_ix (tp_var 0) (tp_var 8) (fun _ _ => rfl)) (nomark _)))))))
      (ts_cons (ts_set 9 sc__law_answer.nd rfl (.inl rfl) (tv_rep (tp_lst (tpa_cons (tp_var 3) tpa_nil)) (tp_op op_add opT_int (tp_var 3) tp_int)))
      (ts_cons (ts_for PassesOwn.never rfl (ti_rngD (by rfl) G.z_range (tp_op op_sub opT_int (tp_var 3) tp_int) (tp_op op_sub opT_int tp_int tp_int) (tp_op op_sub opT_int tp_int tp_int)) (tg_name 8 sc__law_answer.nd rfl (.inl rfl)) (ts_one (ts_store 9 (tv_p (tp_if (tpt_val (tp_ix (tp_var 6) (tp_var 8) (fun _ _ => rfl))) (tp_var 8) (tp_ix (tp_var 9) (tp_op op_add opT_int (tp_var 8) tp_int) (fun _ _ => rfl)))) (tp_var 8))))
      (ts_cons (ts_set 10 sc__law_answer.nd rfl (.inr rfl) (tv_rep (tp_lst (tpa_cons tp_int tpa_nil)) (tp_op op_add opT_int (tp_var 3) tp_int)))
      (ts_cons (ts_for PassesOwn.never rfl (ti_rng1 (by rfl) G.z_range (tp_callB call_len_seq caT_len (by rfl) G.z_len PySem.boot_len (tpa_cons (tp_var 1) tpa_nil))) (tg_name 5 sc__law_answer.nd rfl (.inl rfl)) (ts_one (ts_if (tvt_p (tpt_cmp op_gt opT_bl (tp_ix (tp_var 2) (tp_var 5) (fun _ _ => rfl)) tp_int (nomark _))) (ts_cons (ts_set 12 sc__law_answer.nd rfl (.inl rfl) (tv_p (tp_ix (tp_var 9) (tp_ix (tp_ix (tp_var 1) (tp_var 5) (fun _ _ => rfl)) tp_int (fun _ _ => rfl)) (fun _ _ => rfl))))
      (ts_one (ts_store 10 (tv_p (tp_callB (call_max2 rfl) caT_ii (by rfl) G.z_max (by decide +kernel) (tpa_cons (tp_ix (tp_var 10) (tp_var 12) (fun _ _ => rfl)) (tpa_cons (tp_ix (tp_ix (tp_var 1) (tp_var 5) (fun _ _ => rfl)) tp_int (fun _ _ => rfl)) tpa_nil)))) (tp_var 12)))) ts_nil)))
      (ts_cons (ts_for PassesOwn.never rfl (ti_rngD (by rfl) G.z_range (tp_op op_sub opT_int (tp_var 3) tp_int) (tp_op op_sub opT_int tp_int tp_int) (tp_op op_sub opT_int tp_int tp_int)) (tg_name 8 sc__law_answer.nd rfl (.inl rfl)) (ts_one (ts_store 10 (tv_p (tp_callB (call_max2 rfl) caT_ii (by rfl) G.z_max (by decide +kernel) (tpa_cons (tp_ix (tp_var 10) (tp_var 8) (fun _ _ => rfl)) (tpa_cons (tp_ix (tp_var 10) (tp_op op_add opT_int (tp_var 8) tp_int) (fun _ _ => rfl)) tpa_nil)))) (tp_var 8))))
      (ts_cons (ts_setLc (i := 11) (hc := rfl) (hN := sc__law_answer.nd) (hy := rfl) (hyl := rfl) (hsw := sw_true rfl rfl rfl (by decide +kernel)) (own := [("k", 8)]) (k := 0) (js := [8]) (hi := (ti_rng1 (by rfl) G.z_range (tp_var 3))) (ok := (blkOk_by (N := ["lacks", "kinds", "amounts", "size", "fresh", "j", "tight", "count", "k", "until", "worth", "prices", "last", "kind"]) (sc := defScope s__law_answer) (by decide +kernel))) (hg := fun _ _ _ _ _ => (tg_name 8 sc__law_answer.nd rfl (.inl rfl))) (ht := fun _ _ _ _ _ => tvts_nil) (he := fun _ _ _ _ _ => (tv_p (tp_op op_sub opT_int (tp_ix (tp_var 10) (tp_var 8) (fun _ _ => rfl)) (tp_ix (tp_var 10) (tp_op op_add opT_int (tp_var 8) tp_int) (fun _ _ => rfl))))) (hj := by decide))
      (ts_one (ts_ret (tv_fit 2 (tv_tup 1 (tva_cons 1 (tv_var 2) (tva_cons 1 (tv_var 11) (tva_cons 1 (tv_lc (own := [("kind", 13)]) 0 [13] rfl sc__law_answer.nd (ti_lst (tv_var 1)) (blkOk_by (N := ["lacks", "kinds", "amounts", "size", "fresh", "j", "tight", "count", "k", "until", "worth", "prices", "last", "kind"]) (sc := defScope s__law_answer) (by decide +kernel)) (fun _ _ _ _ _ => (tg_name 13 sc__law_answer.nd rfl (.inl rfl))) (fun _ _ _ _ _ => tvts_nil) (fun _ _ _ _ _ => (tv_p (tp_callB (call_max2 rfl) caT_ii (by rfl) G.z_max (by decide +kernel) (tpa_cons tp_int (tpa_cons (tp_op op_sub opT_int (tp_ix (tp_var 10) (tp_ix (tp_var 13) tp_int (fun _ _ => rfl)) (fun _ _ => rfl)) (tp_ix (tp_var 13) tp_int (fun _ _ => rfl))) tpa_nil))))) (by decide)) tva_nil))) (by simp) (by decide))))))))))))))))))), fun ts R hW hlen => ?_⟩

  obtain ⟨lacks, kinds, qs, rfl, hn, hg, hq, h⟩ := hW
  have hk := hg.1
  simp -dsimp only [↓uSeq, ↓uNext, ↓uFor, ↓uSt, ↓uStV, ↓uAu, ↓uAp, ↓uApMv, ↓uAuN, ↓uAlias, ↓uDem, ↓uBrk, ↓uCnt, ↓uNev, ↓uRet, ↓uRetN, ↓uExp, ↓uExpP, ↓uRaise1, ↓wCallX, ↓uExpX, ↓uRetX, ↓uSetX, ↓uTryE, ↓gLtT, ↓iRngD, ↓vSortP, ↓vCat, ↓vCatV, ↓gCat, ↓uSet, ↓uSetR, ↓uIf, ↓wVar, ↓wVarV, ↓wC, ↓w1, ↓w2, ↓wT, asB, ↓wChain, ↓wNil, ↓wCons, ↓wAnd, ↓wOr, ↓wNot, ↓wAndV, ↓wOrV, ↓wNotV, ↓wIf, ↓wCallP, ↓wCallV, ↓wCa, ↓wTup, ↓wLst, ↓oNon, ↓oSom, ↓wSlice, ↓wRev, ↓vP, ↓vSh, ↓vFit, ↓vaNil, ↓vaCons, ↓vLst, ↓vTup, ↓vTup0, ↓vList, ↓vRep, ↓vSlice, ↓cSl, ↓vCallN, ↓v1, ↓vCa, ↓vIx, ↓tP, ↓vAnd, ↓vOr, ↓vNot, ↓vIf, ↓vT, ↓v2, ↓vLc, ↓gI2, ↓gI2c, ↓gLen, ↓gII, ↓gI, ↓gInt1, ↓gRep, ↓gKids, ↓gIn, ↓iLst, ↓TL.iTup, ↓TL.iRng1, ↓TL.iRng2, ↓iEn, ↓iZp, ↓hName, ↓hCons, ↓hNil, ↓hTup, ↓wSl, ↓wIsi, ↓wYes, rho0, iniE, entOf, allSh, List.replicate, List.length_cons, List.length_nil, Nat.reduceAdd, Nat.reduceSub, Nat.reduceLT, Nat.reduceLeDiff, List.cons_append, List.nil_append, List.getElem?_cons_zero, List.getElem?_cons_succ, Option.bind_some, Ent.tr, Ent.own, Ent.put, setE, killA, noAl_ow, noAl_io1, noAl_no, noAl_ro, noAl_al', killJ_cons, killJ_nil0, noRo_ow, noRo_io, noRo_no, noRo_al, mem1, notIn, noRA_ow, noRA_io, noRA_no, noRA_al, Plc, demE, List.foldl_cons, List.foldl_nil, List.map_cons, List.map_nil, List.set_cons_zero, List.set_cons_succ, endsOf, ↓outsOf, Option.map_some, plSet, TL.putAt, T.put, true_and, and_true, lst_set, lst_snoc, lm_set, lm_snoc, shOnly, shE_ow0, shE_ow1, shE_io, shE_no, Option.isSome_some, reduceIte, if_true, if_false, Bool.false_eq_true, Nat.reduceEqDiff]
  refine ⟨lacks, kinds, qs, rfl, hn, hg, hq, ?_⟩
  cases hgr : gr kinds qs lacks 0 (List.replicate kinds.length 0) with
  | error k =>
    rw [stockT, hgr] at h
    exact ⟨rfl, rfl, ifT rfl ⟨.inr rfl, h⟩⟩
  | ok am =>
    rw [stockT, hgr] at h
    have hlv := gr_lv hq (k := 0) rfl (lv_zero hg) hgr
    rw [Nat.zero_add] at hlv
    have hal : am.length = kinds.length := hlv.len
    have hla := last_lt hg hlv
    generalize hTL : tightL lacks kinds am = tl at hla
    have htl : tl.length = lacks.length := by rw [← hTL, tight_len]
    have hlt : ∀ x ∈ kinds.zip am, x.2 > 0 → lastN tl x.1.1.toNat < lacks.length := fun x hx => (hla x hx).2
    have h : R 2 (.tup [Li am, Li (pricesF (sufL (worthF tl lacks.length (kinds.zip am))) lacks.length), Li (rentsF (sufL (worthF tl lacks.length (kinds.zip am))) kinds)]) [] := by
      rw [worth_found hlt, ← hTL]; exact h
    show (Li am).flatAt 1 = true ∧ (Li am).tyn.isSome = true ∧ if isT TyN.tup (Li am) = true then _ else _
    refine ⟨flatAt_Li, rfl, ifF (fun z => Bool.false_ne_true z) ?_⟩
    rw [List.length_map, List.length_map, show ((lacks.length : Int) + 1).toNat = lacks.length + 1 by omega, rep_flat, Int.toNat_natCast]
    refine ⟨rfl, by omega, by omega, by omega, flats_ints _, by omega, by omega, ?_⟩
    refine ⟨fun i ρ => ∃ x5, ρ = [Ent.ow 0 (Li lacks), Ent.ow 0 (Lk kinds), Ent.ow 1 (Li am), Ent.ow 0 (.int lacks.length), Ent.ow 1 (Li (freshF lacks.length ((kinds.zip am).take i))), x5, Ent.no, Ent.no, Ent.no, Ent.no, Ent.no, Ent.no, Ent.no, Ent.no], ⟨_, rfl⟩, fun i t ρ hi hI => ?_, fun ρ hI => ?_⟩
    · obtain ⟨x5, rfl⟩ := hI
      obtain ⟨hil, rfl⟩ := rgT_get.mp hi
      rw [Int.zero_add]
      have hxg := (hg.2 _ (List.mem_of_getElem? (kAt_get hil))).1
      obtain ⟨j, hj⟩ := Int.eq_ofNat_of_zero_le hxg.1
      have hjl := hxg.2
      have hFl : (freshF lacks.length ((kinds.zip am).take i)).length = lacks.length + 1 := by unfold freshF; rw [fr_len]; simp
      have hz := zip_get (kAt_get hil) (aAt_get (show i < am.length by omega))
      have st : freshF lacks.length ((kinds.zip am).take (i + 1)) = frStep (freshF lacks.length ((kinds.zip am).take i)) (kAt kinds i, aAt am i) := foldl_take hz
      unfold frStep at st
      simp only at st
      rw [hj, Int.toNat_natCast] at st
      simp -dsimp only [↓uSeq, ↓uNext, ↓uFor, ↓uSt, ↓uStV, ↓uAu, ↓uAp, ↓uApMv, ↓uAuN, ↓uAlias, ↓uDem, ↓uBrk, ↓uCnt, ↓uNev, ↓uRet, ↓uRetN, ↓uExp, ↓uExpP, ↓uRaise1, ↓wCallX, ↓uExpX, ↓uRetX, ↓uSetX, ↓uTryE, ↓gLtT, ↓iRngD, ↓vSortP, ↓vCat, ↓vCatV, ↓gCat, ↓uSet, ↓uSetR, ↓uIf, ↓wVar, ↓wVarV, ↓wC, ↓w1, ↓w2, ↓wT, asB, ↓wChain, ↓wNil, ↓wCons, ↓wAnd, ↓wOr, ↓wNot, ↓wAndV, ↓wOrV, ↓wNotV, ↓wIf, ↓wCallP, ↓wCallV, ↓wCa, ↓wTup, ↓wLst, ↓oNon, ↓oSom, ↓wSlice, ↓wRev, ↓vP, ↓vSh, ↓vFit, ↓vaNil, ↓vaCons, ↓vLst, ↓vTup, ↓vTup0, ↓vList, ↓vRep, ↓vSlice, ↓cSl, ↓vCallN, ↓v1, ↓vCa, ↓vIx, ↓tP, ↓vAnd, ↓vOr, ↓vNot, ↓vIf, ↓vT, ↓v2, ↓vLc, ↓gI2, ↓gI2c, ↓gLen, ↓gII, ↓gI, ↓gInt1, ↓gRep, ↓gKids, ↓gIn, ↓iLst, ↓TL.iTup, ↓TL.iRng1, ↓TL.iRng2, ↓iEn, ↓iZp, ↓hName, ↓hCons, ↓hNil, ↓hTup, ↓wSl, ↓wIsi, ↓wYes, rho0, iniE, entOf, allSh, List.replicate, List.length_cons, List.length_nil, Nat.reduceAdd, Nat.reduceSub, Nat.reduceLT, Nat.reduceLeDiff, List.cons_append, List.nil_append, List.getElem?_cons_zero, List.getElem?_cons_succ, Option.bind_some, Ent.tr, Ent.own, Ent.put, setE, killA, noAl_ow, noAl_io1, noAl_no, noAl_ro, noAl_al', killJ_cons, killJ_nil0, noRo_ow, noRo_io, noRo_no, noRo_al, mem1, notIn, noRA_ow, noRA_io, noRA_no, noRA_al, Plc, demE, List.foldl_cons, List.foldl_nil, List.map_cons, List.map_nil, List.set_cons_zero, List.set_cons_succ, endsOf, ↓outsOf, Option.map_some, plSet, TL.putAt, T.put, true_and, and_true, lst_set, lst_snoc, lm_set, lm_snoc, shOnly, shE_ow0, shE_ow1, shE_io, shE_no, Option.isSome_some, reduceIte, if_true, if_false, Bool.false_eq_true, Nat.reduceEqDiff]
      refine gIx_k hil ?_
      rw [g30, hj]
      refine gIx_a (by rw [hFl]; omega) (gIx_a (by omega) ⟨rfl, gIx_k hil ?_⟩)
      rw [g30, hj]
      simp -dsimp only [↓uSeq, ↓uNext, ↓uFor, ↓uSt, ↓uStV, ↓uAu, ↓uAp, ↓uApMv, ↓uAuN, ↓uAlias, ↓uDem, ↓uBrk, ↓uCnt, ↓uNev, ↓uRet, ↓uRetN, ↓uExp, ↓uExpP, ↓uRaise1, ↓wCallX, ↓uExpX, ↓uRetX, ↓uSetX, ↓uTryE, ↓gLtT, ↓iRngD, ↓vSortP, ↓vCat, ↓vCatV, ↓gCat, ↓uSet, ↓uSetR, ↓uIf, ↓wVar, ↓wVarV, ↓wC, ↓w1, ↓w2, ↓wT, asB, ↓wChain, ↓wNil, ↓wCons, ↓wAnd, ↓wOr, ↓wNot, ↓wAndV, ↓wOrV, ↓wNotV, ↓wIf, ↓wCallP, ↓wCallV, ↓wCa, ↓wTup, ↓wLst, ↓oNon, ↓oSom, ↓wSlice, ↓wRev, ↓vP, ↓vSh, ↓vFit, ↓vaNil, ↓vaCons, ↓vLst, ↓vTup, ↓vTup0, ↓vList, ↓vRep, ↓vSlice, ↓cSl, ↓vCallN, ↓v1, ↓vCa, ↓vIx, ↓tP, ↓vAnd, ↓vOr, ↓vNot, ↓vIf, ↓vT, ↓v2, ↓vLc, ↓gI2, ↓gI2c, ↓gLen, ↓gII, ↓gI, ↓gInt1, ↓gRep, ↓gKids, ↓gIn, ↓iLst, ↓TL.iTup, ↓TL.iRng1, ↓TL.iRng2, ↓iEn, ↓iZp, ↓hName, ↓hCons, ↓hNil, ↓hTup, ↓wSl, ↓wIsi, ↓wYes, rho0, iniE, entOf, allSh, List.replicate, List.length_cons, List.length_nil, Nat.reduceAdd, Nat.reduceSub, Nat.reduceLT, Nat.reduceLeDiff, List.cons_append, List.nil_append, List.getElem?_cons_zero, List.getElem?_cons_succ, Option.bind_some, Ent.tr, Ent.own, Ent.put, setE, killA, noAl_ow, noAl_io1, noAl_no, noAl_ro, noAl_al', killJ_cons, killJ_nil0, noRo_ow, noRo_io, noRo_no, noRo_al, mem1, notIn, noRA_ow, noRA_io, noRA_no, noRA_al, Plc, demE, List.foldl_cons, List.foldl_nil, List.map_cons, List.map_nil, List.set_cons_zero, List.set_cons_succ, endsOf, ↓outsOf, Option.map_some, plSet, TL.putAt, T.put, true_and, and_true, lst_set, lst_snoc, lm_set, lm_snoc, shOnly, shE_ow0, shE_ow1, shE_io, shE_no, Option.isSome_some, reduceIte, if_true, if_false, Bool.false_eq_true, Nat.reduceEqDiff]
      rw [ixN_nat (by rw [List.length_map, hFl]; omega)]
      rw [st]
      exact ⟨fit0, _, rfl⟩
    obtain ⟨x5, rfl⟩ := hI
    rw [rgT_len, show (kinds.zip am).take kinds.length = kinds.zip am from List.take_of_length_le (by rw [List.length_zip]; omega)]
    generalize hFr : freshF lacks.length (kinds.zip am) = fr
    have hfl : fr.length = lacks.length + 1 := by rw [← hFr]; unfold freshF; rw [fr_len]; simp
    have hps : ∀ k : Nat, (fr.take (k + 1)).sum = pcs kinds am k := fun k => by rw [← hFr]; exact fresh_pcs hg.2
    simp -dsimp only [↓uSeq, ↓uNext, ↓uFor, ↓uSt, ↓uStV, ↓uAu, ↓uAp, ↓uApMv, ↓uAuN, ↓uAlias, ↓uDem, ↓uBrk, ↓uCnt, ↓uNev, ↓uRet, ↓uRetN, ↓uExp, ↓uExpP, ↓uRaise1, ↓wCallX, ↓uExpX, ↓uRetX, ↓uSetX, ↓uTryE, ↓gLtT, ↓iRngD, ↓vSortP, ↓vCat, ↓vCatV, ↓gCat, ↓uSet, ↓uSetR, ↓uIf, ↓wVar, ↓wVarV, ↓wC, ↓w1, ↓w2, ↓wT, asB, ↓wChain, ↓wNil, ↓wCons, ↓wAnd, ↓wOr, ↓wNot, ↓wAndV, ↓wOrV, ↓wNotV, ↓wIf, ↓wCallP, ↓wCallV, ↓wCa, ↓wTup, ↓wLst, ↓oNon, ↓oSom, ↓wSlice, ↓wRev, ↓vP, ↓vSh, ↓vFit, ↓vaNil, ↓vaCons, ↓vLst, ↓vTup, ↓vTup0, ↓vList, ↓vRep, ↓vSlice, ↓cSl, ↓vCallN, ↓v1, ↓vCa, ↓vIx, ↓tP, ↓vAnd, ↓vOr, ↓vNot, ↓vIf, ↓vT, ↓v2, ↓vLc, ↓gI2, ↓gI2c, ↓gLen, ↓gII, ↓gI, ↓gInt1, ↓gRep, ↓gKids, ↓gIn, ↓iLst, ↓TL.iTup, ↓TL.iRng1, ↓TL.iRng2, ↓iEn, ↓iZp, ↓hName, ↓hCons, ↓hNil, ↓hTup, ↓wSl, ↓wIsi, ↓wYes, rho0, iniE, entOf, allSh, List.replicate, List.length_cons, List.length_nil, Nat.reduceAdd, Nat.reduceSub, Nat.reduceLT, Nat.reduceLeDiff, List.cons_append, List.nil_append, List.getElem?_cons_zero, List.getElem?_cons_succ, Option.bind_some, Ent.tr, Ent.own, Ent.put, setE, killA, noAl_ow, noAl_io1, noAl_no, noAl_ro, noAl_al', killJ_cons, killJ_nil0, noRo_ow, noRo_io, noRo_no, noRo_al, mem1, notIn, noRA_ow, noRA_io, noRA_no, noRA_al, Plc, demE, List.foldl_cons, List.foldl_nil, List.map_cons, List.map_nil, List.set_cons_zero, List.set_cons_succ, endsOf, ↓outsOf, Option.map_some, plSet, TL.putAt, T.put, true_and, and_true, lst_set, lst_snoc, lm_set, lm_snoc, shOnly, shE_ow0, shE_ow1, shE_io, shE_no, Option.isSome_some, reduceIte, if_true, if_false, Bool.false_eq_true, Nat.reduceEqDiff]
    refine ⟨rfl, by omega, by omega, fun i ρ => ∃ x5 x8, ρ = [Ent.ow 0 (Li lacks), Ent.ow 0 (Lk kinds), Ent.ow 1 (Li am), Ent.ow 0 (.int lacks.length), Ent.ow 1 (Li fr), x5, Ent.ow 1 (Lb (tl.take i)), Ent.ow 0 (.int (fr.take i).sum), x8, Ent.no, Ent.no, Ent.no, Ent.no, Ent.no], ⟨_, _, rfl⟩, fun i t ρ hi hI => ?_, fun ρ hI => ?_⟩
    · obtain ⟨x5, x8, rfl⟩ := hI
      obtain ⟨hil, rfl⟩ := rgT_get.mp hi
      rw [Int.zero_add]
      have hl := List.getElem?_eq_getElem hil
      have ht := tight_get (kinds := kinds) (am := am) hl
      rw [hTL] at ht
      simp -dsimp only [↓uSeq, ↓uNext, ↓uFor, ↓uSt, ↓uStV, ↓uAu, ↓uAp, ↓uApMv, ↓uAuN, ↓uAlias, ↓uDem, ↓uBrk, ↓uCnt, ↓uNev, ↓uRet, ↓uRetN, ↓uExp, ↓uExpP, ↓uRaise1, ↓wCallX, ↓uExpX, ↓uRetX, ↓uSetX, ↓uTryE, ↓gLtT, ↓iRngD, ↓vSortP, ↓vCat, ↓vCatV, ↓gCat, ↓uSet, ↓uSetR, ↓uIf, ↓wVar, ↓wVarV, ↓wC, ↓w1, ↓w2, ↓wT, asB, ↓wChain, ↓wNil, ↓wCons, ↓wAnd, ↓wOr, ↓wNot, ↓wAndV, ↓wOrV, ↓wNotV, ↓wIf, ↓wCallP, ↓wCallV, ↓wCa, ↓wTup, ↓wLst, ↓oNon, ↓oSom, ↓wSlice, ↓wRev, ↓vP, ↓vSh, ↓vFit, ↓vaNil, ↓vaCons, ↓vLst, ↓vTup, ↓vTup0, ↓vList, ↓vRep, ↓vSlice, ↓cSl, ↓vCallN, ↓v1, ↓vCa, ↓vIx, ↓tP, ↓vAnd, ↓vOr, ↓vNot, ↓vIf, ↓vT, ↓v2, ↓vLc, ↓gI2, ↓gI2c, ↓gLen, ↓gII, ↓gI, ↓gInt1, ↓gRep, ↓gKids, ↓gIn, ↓iLst, ↓TL.iTup, ↓TL.iRng1, ↓TL.iRng2, ↓iEn, ↓iZp, ↓hName, ↓hCons, ↓hNil, ↓hTup, ↓wSl, ↓wIsi, ↓wYes, rho0, iniE, entOf, allSh, List.replicate, List.length_cons, List.length_nil, Nat.reduceAdd, Nat.reduceSub, Nat.reduceLT, Nat.reduceLeDiff, List.cons_append, List.nil_append, List.getElem?_cons_zero, List.getElem?_cons_succ, Option.bind_some, Ent.tr, Ent.own, Ent.put, setE, killA, noAl_ow, noAl_io1, noAl_no, noAl_ro, noAl_al', killJ_cons, killJ_nil0, noRo_ow, noRo_io, noRo_no, noRo_al, mem1, notIn, noRA_ow, noRA_io, noRA_no, noRA_al, Plc, demE, List.foldl_cons, List.foldl_nil, List.map_cons, List.map_nil, List.set_cons_zero, List.set_cons_succ, endsOf, ↓outsOf, Option.map_some, plSet, TL.putAt, T.put, true_and, and_true, lst_set, lst_snoc, lm_set, lm_snoc, shOnly, shE_ow0, shE_ow1, shE_io, shE_no, Option.isSome_some, reduceIte, if_true, if_false, Bool.false_eq_true, Nat.reduceEqDiff]
      refine gIx_a (by rw [hfl]; omega) ?_
      simp -dsimp only [↓uSeq, ↓uNext, ↓uFor, ↓uSt, ↓uStV, ↓uAu, ↓uAp, ↓uApMv, ↓uAuN, ↓uAlias, ↓uDem, ↓uBrk, ↓uCnt, ↓uNev, ↓uRet, ↓uRetN, ↓uExp, ↓uExpP, ↓uRaise1, ↓wCallX, ↓uExpX, ↓uRetX, ↓uSetX, ↓uTryE, ↓gLtT, ↓iRngD, ↓vSortP, ↓vCat, ↓vCatV, ↓gCat, ↓uSet, ↓uSetR, ↓uIf, ↓wVar, ↓wVarV, ↓wC, ↓w1, ↓w2, ↓wT, asB, ↓wChain, ↓wNil, ↓wCons, ↓wAnd, ↓wOr, ↓wNot, ↓wAndV, ↓wOrV, ↓wNotV, ↓wIf, ↓wCallP, ↓wCallV, ↓wCa, ↓wTup, ↓wLst, ↓oNon, ↓oSom, ↓wSlice, ↓wRev, ↓vP, ↓vSh, ↓vFit, ↓vaNil, ↓vaCons, ↓vLst, ↓vTup, ↓vTup0, ↓vList, ↓vRep, ↓vSlice, ↓cSl, ↓vCallN, ↓v1, ↓vCa, ↓vIx, ↓tP, ↓vAnd, ↓vOr, ↓vNot, ↓vIf, ↓vT, ↓v2, ↓vLc, ↓gI2, ↓gI2c, ↓gLen, ↓gII, ↓gI, ↓gInt1, ↓gRep, ↓gKids, ↓gIn, ↓iLst, ↓TL.iTup, ↓TL.iRng1, ↓TL.iRng2, ↓iEn, ↓iZp, ↓hName, ↓hCons, ↓hNil, ↓hTup, ↓wSl, ↓wIsi, ↓wYes, rho0, iniE, entOf, allSh, List.replicate, List.length_cons, List.length_nil, Nat.reduceAdd, Nat.reduceSub, Nat.reduceLT, Nat.reduceLeDiff, List.cons_append, List.nil_append, List.getElem?_cons_zero, List.getElem?_cons_succ, Option.bind_some, Ent.tr, Ent.own, Ent.put, setE, killA, noAl_ow, noAl_io1, noAl_no, noAl_ro, noAl_al', killJ_cons, killJ_nil0, noRo_ow, noRo_io, noRo_no, noRo_al, mem1, notIn, noRA_ow, noRA_io, noRA_no, noRA_al, Plc, demE, List.foldl_cons, List.foldl_nil, List.map_cons, List.map_nil, List.set_cons_zero, List.set_cons_succ, endsOf, ↓outsOf, Option.map_some, plSet, TL.putAt, T.put, true_and, and_true, lst_set, lst_snoc, lm_set, lm_snoc, shOnly, shE_ow0, shE_ow1, shE_io, shE_no, Option.isSome_some, reduceIte, if_true, if_false, Bool.false_eq_true, Nat.reduceEqDiff]
      refine ⟨rfl, gIx_i hl ?_⟩
      have es : (fr.take i).sum + aAt fr i = pcs kinds am i := by
        rw [← hps i, ← take_snoc (aAt_get (show i < fr.length by omega)), List.sum_append]; simp
      rw [es]
      refine ⟨rfl, fit0, ?_, ?_⟩
      · rw [List.length_map, List.length_take]; omega
      · have e2 : List.map T.bl (tl.take i) ++ [T.bl (decide (pcs kinds am i = lacks[i]))] = List.map T.bl (tl.take (i + 1)) := by rw [← take_snoc ht, List.map_append]; rfl
        rw [e2, hps i]
        exact ⟨_, _, rfl⟩
    obtain ⟨x5, x8, rfl⟩ := hI
    rw [rgT_len, Int.toNat_natCast, ← htl, take_len]
    simp -dsimp only [↓uSeq, ↓uNext, ↓uFor, ↓uSt, ↓uStV, ↓uAu, ↓uAp, ↓uApMv, ↓uAuN, ↓uAlias, ↓uDem, ↓uBrk, ↓uCnt, ↓uNev, ↓uRet, ↓uRetN, ↓uExp, ↓uExpP, ↓uRaise1, ↓wCallX, ↓uExpX, ↓uRetX, ↓uSetX, ↓uTryE, ↓gLtT, ↓iRngD, ↓vSortP, ↓vCat, ↓vCatV, ↓gCat, ↓uSet, ↓uSetR, ↓uIf, ↓wVar, ↓wVarV, ↓wC, ↓w1, ↓w2, ↓wT, asB, ↓wChain, ↓wNil, ↓wCons, ↓wAnd, ↓wOr, ↓wNot, ↓wAndV, ↓wOrV, ↓wNotV, ↓wIf, ↓wCallP, ↓wCallV, ↓wCa, ↓wTup, ↓wLst, ↓oNon, ↓oSom, ↓wSlice, ↓wRev, ↓vP, ↓vSh, ↓vFit, ↓vaNil, ↓vaCons, ↓vLst, ↓vTup, ↓vTup0, ↓vList, ↓vRep, ↓vSlice, ↓cSl, ↓vCallN, ↓v1, ↓vCa, ↓vIx, ↓tP, ↓vAnd, ↓vOr, ↓vNot, ↓vIf, ↓vT, ↓v2, ↓vLc, ↓gI2, ↓gI2c, ↓gLen, ↓gII, ↓gI, ↓gInt1, ↓gRep, ↓gKids, ↓gIn, ↓iLst, ↓TL.iTup, ↓TL.iRng1, ↓TL.iRng2, ↓iEn, ↓iZp, ↓hName, ↓hCons, ↓hNil, ↓hTup, ↓wSl, ↓wIsi, ↓wYes, rho0, iniE, entOf, allSh, List.replicate, List.length_cons, List.length_nil, Nat.reduceAdd, Nat.reduceSub, Nat.reduceLT, Nat.reduceLeDiff, List.cons_append, List.nil_append, List.getElem?_cons_zero, List.getElem?_cons_succ, Option.bind_some, Ent.tr, Ent.own, Ent.put, setE, killA, noAl_ow, noAl_io1, noAl_no, noAl_ro, noAl_al', killJ_cons, killJ_nil0, noRo_ow, noRo_io, noRo_no, noRo_al, mem1, notIn, noRA_ow, noRA_io, noRA_no, noRA_al, Plc, demE, List.foldl_cons, List.foldl_nil, List.map_cons, List.map_nil, List.set_cons_zero, List.set_cons_succ, endsOf, ↓outsOf, Option.map_some, plSet, TL.putAt, T.put, true_and, and_true, lst_set, lst_snoc, lm_set, lm_snoc, shOnly, shE_ow0, shE_ow1, shE_io, shE_no, Option.isSome_some, reduceIte, if_true, if_false, Bool.false_eq_true, Nat.reduceEqDiff]
    rw [show ((tl.length : Int) + 1).toNat = tl.length + 1 by omega, rep_flat, ← until_0]
    refine ⟨by omega, by omega, by omega, flats_ints _, rfl, ⟨by omega, by omega, by omega, by omega⟩, ?_⟩
    rw [show ((tl.length : Int) - 1 - (0 - 1)).toNat = tl.length by omega]
    refine ⟨fun i ρ => ∃ x5 x7 x8, ρ = [Ent.ow 0 (Li lacks), Ent.ow 0 (Lk kinds), Ent.ow 1 (Li am), Ent.ow 0 (.int tl.length), Ent.ow 1 (Li fr), x5, Ent.ow 1 (Lb tl), x7, x8, Ent.ow 1 (Li (untilL tl i)), Ent.no, Ent.no, Ent.no, Ent.no], ⟨_, _, _, rfl⟩, fun i t ρ hi hI => ?_, fun ρ hI => ?_⟩
    · obtain ⟨x5, x7, x8, rfl⟩ := hI
      obtain ⟨hil, rfl⟩ := rgD_get.mp hi
      obtain ⟨k, hk'⟩ : ∃ k : Nat, k + i + 1 = tl.length := ⟨tl.length - 1 - i, by omega⟩
      rw [show (tl.length : Int) - 1 - (i : Int) = (k : Int) by omega]
      have kl : k < tl.length := by omega
      have htk := List.getElem?_eq_getElem kl
      generalize tl[k] = b at htk
      have st := until_step hk' htk
      simp -dsimp only [↓uSeq, ↓uNext, ↓uFor, ↓uSt, ↓uStV, ↓uAu, ↓uAp, ↓uApMv, ↓uAuN, ↓uAlias, ↓uDem, ↓uBrk, ↓uCnt, ↓uNev, ↓uRet, ↓uRetN, ↓uExp, ↓uExpP, ↓uRaise1, ↓wCallX, ↓uExpX, ↓uRetX, ↓uSetX, ↓uTryE, ↓gLtT, ↓iRngD, ↓vSortP, ↓vCat, ↓vCatV, ↓gCat, ↓uSet, ↓uSetR, ↓uIf, ↓wVar, ↓wVarV, ↓wC, ↓w1, ↓w2, ↓wT, asB, ↓wChain, ↓wNil, ↓wCons, ↓wAnd, ↓wOr, ↓wNot, ↓wAndV, ↓wOrV, ↓wNotV, ↓wIf, ↓wCallP, ↓wCallV, ↓wCa, ↓wTup, ↓wLst, ↓oNon, ↓oSom, ↓wSlice, ↓wRev, ↓vP, ↓vSh, ↓vFit, ↓vaNil, ↓vaCons, ↓vLst, ↓vTup, ↓vTup0, ↓vList, ↓vRep, ↓vSlice, ↓cSl, ↓vCallN, ↓v1, ↓vCa, ↓vIx, ↓tP, ↓vAnd, ↓vOr, ↓vNot, ↓vIf, ↓vT, ↓v2, ↓vLc, ↓gI2, ↓gI2c, ↓gLen, ↓gII, ↓gI, ↓gInt1, ↓gRep, ↓gKids, ↓gIn, ↓iLst, ↓TL.iTup, ↓TL.iRng1, ↓TL.iRng2, ↓iEn, ↓iZp, ↓hName, ↓hCons, ↓hNil, ↓hTup, ↓wSl, ↓wIsi, ↓wYes, rho0, iniE, entOf, allSh, List.replicate, List.length_cons, List.length_nil, Nat.reduceAdd, Nat.reduceSub, Nat.reduceLT, Nat.reduceLeDiff, List.cons_append, List.nil_append, List.getElem?_cons_zero, List.getElem?_cons_succ, Option.bind_some, Ent.tr, Ent.own, Ent.put, setE, killA, noAl_ow, noAl_io1, noAl_no, noAl_ro, noAl_al', killJ_cons, killJ_nil0, noRo_ow, noRo_io, noRo_no, noRo_al, mem1, notIn, noRA_ow, noRA_io, noRA_no, noRA_al, Plc, demE, List.foldl_cons, List.foldl_nil, List.map_cons, List.map_nil, List.set_cons_zero, List.set_cons_succ, endsOf, ↓outsOf, Option.map_some, plSet, TL.putAt, T.put, true_and, and_true, lst_set, lst_snoc, lm_set, lm_snoc, shOnly, shE_ow0, shE_ow1, shE_io, shE_no, Option.isSome_some, reduceIte, if_true, if_false, Bool.false_eq_true, Nat.reduceEqDiff]
      refine gIx_b htk ?_
      have u1 := until_get (tl := tl) (i := i) (k := k + 1) (by omega)
      rw [if_pos (by omega)] at u1
      have ix : ixN (List.map T.int (untilL tl i)).length (k : Int) = some k := ixN_nat (by rw [List.length_map, until_len]; omega)
      cases b with
      | true =>
        rw [if_pos rfl] at st
        refine ifT rfl ⟨rfl, ?_⟩
        rw [ix]
        refine ⟨fit0, ?_⟩
        rw [st]
        exact ⟨_, _, _, rfl⟩
      | false =>
        rw [if_neg Bool.false_ne_true] at st
        refine ifF (fun z => Bool.false_ne_true z) ?_
        rw [show (k : Int) + 1 = ((k + 1 : Nat) : Int) by omega]
        refine gIx_i u1 ⟨rfl, ?_⟩
        rw [ix]
        refine ⟨fit0, ?_⟩
        rw [lst_set, st]
        exact ⟨_, _, _, rfl⟩
    obtain ⟨x5, x7, x8, rfl⟩ := hI
    rw [rgD_len]
    simp -dsimp only [↓uSeq, ↓uNext, ↓uFor, ↓uSt, ↓uStV, ↓uAu, ↓uAp, ↓uApMv, ↓uAuN, ↓uAlias, ↓uDem, ↓uBrk, ↓uCnt, ↓uNev, ↓uRet, ↓uRetN, ↓uExp, ↓uExpP, ↓uRaise1, ↓wCallX, ↓uExpX, ↓uRetX, ↓uSetX, ↓uTryE, ↓gLtT, ↓iRngD, ↓vSortP, ↓vCat, ↓vCatV, ↓gCat, ↓uSet, ↓uSetR, ↓uIf, ↓wVar, ↓wVarV, ↓wC, ↓w1, ↓w2, ↓wT, asB, ↓wChain, ↓wNil, ↓wCons, ↓wAnd, ↓wOr, ↓wNot, ↓wAndV, ↓wOrV, ↓wNotV, ↓wIf, ↓wCallP, ↓wCallV, ↓wCa, ↓wTup, ↓wLst, ↓oNon, ↓oSom, ↓wSlice, ↓wRev, ↓vP, ↓vSh, ↓vFit, ↓vaNil, ↓vaCons, ↓vLst, ↓vTup, ↓vTup0, ↓vList, ↓vRep, ↓vSlice, ↓cSl, ↓vCallN, ↓v1, ↓vCa, ↓vIx, ↓tP, ↓vAnd, ↓vOr, ↓vNot, ↓vIf, ↓vT, ↓v2, ↓vLc, ↓gI2, ↓gI2c, ↓gLen, ↓gII, ↓gI, ↓gInt1, ↓gRep, ↓gKids, ↓gIn, ↓iLst, ↓TL.iTup, ↓TL.iRng1, ↓TL.iRng2, ↓iEn, ↓iZp, ↓hName, ↓hCons, ↓hNil, ↓hTup, ↓wSl, ↓wIsi, ↓wYes, rho0, iniE, entOf, allSh, List.replicate, List.length_cons, List.length_nil, Nat.reduceAdd, Nat.reduceSub, Nat.reduceLT, Nat.reduceLeDiff, List.cons_append, List.nil_append, List.getElem?_cons_zero, List.getElem?_cons_succ, Option.bind_some, Ent.tr, Ent.own, Ent.put, setE, killA, noAl_ow, noAl_io1, noAl_no, noAl_ro, noAl_al', killJ_cons, killJ_nil0, noRo_ow, noRo_io, noRo_no, noRo_al, mem1, notIn, noRA_ow, noRA_io, noRA_no, noRA_al, Plc, demE, List.foldl_cons, List.foldl_nil, List.map_cons, List.map_nil, List.set_cons_zero, List.set_cons_succ, endsOf, ↓outsOf, Option.map_some, plSet, TL.putAt, T.put, true_and, and_true, lst_set, lst_snoc, lm_set, lm_snoc, shOnly, shE_ow0, shE_ow1, shE_io, shE_no, Option.isSome_some, reduceIte, if_true, if_false, Bool.false_eq_true, Nat.reduceEqDiff]
    rw [show ((tl.length : Int) + 1).toNat = tl.length + 1 by omega, rep_flat, List.length_map, Int.toNat_natCast]
    refine ⟨by omega, by omega, by omega, flats_ints _, by omega, by omega, ?_⟩
    have wl : ∀ i, (worthF tl tl.length ((kinds.zip am).take i)).length = tl.length + 1 := fun i => by unfold worthF; rw [w_len]; simp
    refine ⟨fun i ρ => ∃ x5 x7 x8 x12, ρ = [Ent.ow 0 (Li lacks), Ent.ow 0 (Lk kinds), Ent.ow 1 (Li am), Ent.ow 0 (.int tl.length), Ent.ow 1 (Li fr), x5, Ent.ow 1 (Lb tl), x7, x8, Ent.ow 1 (Li (untilL tl tl.length)), Ent.ow 1 (Li (worthF tl tl.length ((kinds.zip am).take i))), Ent.no, x12, Ent.no], ⟨_, _, _, _, rfl⟩, fun i t ρ hi hI => ?_, fun ρ hI => ?_⟩
    · obtain ⟨x5, x7, x8, x12, rfl⟩ := hI
      obtain ⟨hil, rfl⟩ := rgT_get.mp hi
      rw [Int.zero_add]
      have hxg := (hg.2 _ (List.mem_of_getElem? (kAt_get hil))).1
      obtain ⟨j, hj⟩ := Int.eq_ofNat_of_zero_le hxg.1
      have hjl := hxg.2
      have hz := zip_get (kAt_get hil) (aAt_get (show i < am.length by omega))
      have st : worthF tl tl.length ((kinds.zip am).take (i + 1)) = wStep tl (worthF tl tl.length ((kinds.zip am).take i)) (kAt kinds i, aAt am i) := foldl_take hz
      unfold wStep at st
      simp only at st
      rw [hj, Int.toNat_natCast] at st
      have hlx := hlt _ (List.mem_of_getElem? hz)
      simp only at hlx
      rw [hj, Int.toNat_natCast] at hlx
      simp -dsimp only [↓uSeq, ↓uNext, ↓uFor, ↓uSt, ↓uStV, ↓uAu, ↓uAp, ↓uApMv, ↓uAuN, ↓uAlias, ↓uDem, ↓uBrk, ↓uCnt, ↓uNev, ↓uRet, ↓uRetN, ↓uExp, ↓uExpP, ↓uRaise1, ↓wCallX, ↓uExpX, ↓uRetX, ↓uSetX, ↓uTryE, ↓gLtT, ↓iRngD, ↓vSortP, ↓vCat, ↓vCatV, ↓gCat, ↓uSet, ↓uSetR, ↓uIf, ↓wVar, ↓wVarV, ↓wC, ↓w1, ↓w2, ↓wT, asB, ↓wChain, ↓wNil, ↓wCons, ↓wAnd, ↓wOr, ↓wNot, ↓wAndV, ↓wOrV, ↓wNotV, ↓wIf, ↓wCallP, ↓wCallV, ↓wCa, ↓wTup, ↓wLst, ↓oNon, ↓oSom, ↓wSlice, ↓wRev, ↓vP, ↓vSh, ↓vFit, ↓vaNil, ↓vaCons, ↓vLst, ↓vTup, ↓vTup0, ↓vList, ↓vRep, ↓vSlice, ↓cSl, ↓vCallN, ↓v1, ↓vCa, ↓vIx, ↓tP, ↓vAnd, ↓vOr, ↓vNot, ↓vIf, ↓vT, ↓v2, ↓vLc, ↓gI2, ↓gI2c, ↓gLen, ↓gII, ↓gI, ↓gInt1, ↓gRep, ↓gKids, ↓gIn, ↓iLst, ↓TL.iTup, ↓TL.iRng1, ↓TL.iRng2, ↓iEn, ↓iZp, ↓hName, ↓hCons, ↓hNil, ↓hTup, ↓wSl, ↓wIsi, ↓wYes, rho0, iniE, entOf, allSh, List.replicate, List.length_cons, List.length_nil, Nat.reduceAdd, Nat.reduceSub, Nat.reduceLT, Nat.reduceLeDiff, List.cons_append, List.nil_append, List.getElem?_cons_zero, List.getElem?_cons_succ, Option.bind_some, Ent.tr, Ent.own, Ent.put, setE, killA, noAl_ow, noAl_io1, noAl_no, noAl_ro, noAl_al', killJ_cons, killJ_nil0, noRo_ow, noRo_io, noRo_no, noRo_al, mem1, notIn, noRA_ow, noRA_io, noRA_no, noRA_al, Plc, demE, List.foldl_cons, List.foldl_nil, List.map_cons, List.map_nil, List.set_cons_zero, List.set_cons_succ, endsOf, ↓outsOf, Option.map_some, plSet, TL.putAt, T.put, true_and, and_true, lst_set, lst_snoc, lm_set, lm_snoc, shOnly, shE_ow0, shE_ow1, shE_io, shE_no, Option.isSome_some, reduceIte, if_true, if_false, Bool.false_eq_true, Nat.reduceEqDiff]
      refine gIx_a (by omega) ?_
      simp -dsimp only [↓uSeq, ↓uNext, ↓uFor, ↓uSt, ↓uStV, ↓uAu, ↓uAp, ↓uApMv, ↓uAuN, ↓uAlias, ↓uDem, ↓uBrk, ↓uCnt, ↓uNev, ↓uRet, ↓uRetN, ↓uExp, ↓uExpP, ↓uRaise1, ↓wCallX, ↓uExpX, ↓uRetX, ↓uSetX, ↓uTryE, ↓gLtT, ↓iRngD, ↓vSortP, ↓vCat, ↓vCatV, ↓gCat, ↓uSet, ↓uSetR, ↓uIf, ↓wVar, ↓wVarV, ↓wC, ↓w1, ↓w2, ↓wT, asB, ↓wChain, ↓wNil, ↓wCons, ↓wAnd, ↓wOr, ↓wNot, ↓wAndV, ↓wOrV, ↓wNotV, ↓wIf, ↓wCallP, ↓wCallV, ↓wCa, ↓wTup, ↓wLst, ↓oNon, ↓oSom, ↓wSlice, ↓wRev, ↓vP, ↓vSh, ↓vFit, ↓vaNil, ↓vaCons, ↓vLst, ↓vTup, ↓vTup0, ↓vList, ↓vRep, ↓vSlice, ↓cSl, ↓vCallN, ↓v1, ↓vCa, ↓vIx, ↓tP, ↓vAnd, ↓vOr, ↓vNot, ↓vIf, ↓vT, ↓v2, ↓vLc, ↓gI2, ↓gI2c, ↓gLen, ↓gII, ↓gI, ↓gInt1, ↓gRep, ↓gKids, ↓gIn, ↓iLst, ↓TL.iTup, ↓TL.iRng1, ↓TL.iRng2, ↓iEn, ↓iZp, ↓hName, ↓hCons, ↓hNil, ↓hTup, ↓wSl, ↓wIsi, ↓wYes, rho0, iniE, entOf, allSh, List.replicate, List.length_cons, List.length_nil, Nat.reduceAdd, Nat.reduceSub, Nat.reduceLT, Nat.reduceLeDiff, List.cons_append, List.nil_append, List.getElem?_cons_zero, List.getElem?_cons_succ, Option.bind_some, Ent.tr, Ent.own, Ent.put, setE, killA, noAl_ow, noAl_io1, noAl_no, noAl_ro, noAl_al', killJ_cons, killJ_nil0, noRo_ow, noRo_io, noRo_no, noRo_al, mem1, notIn, noRA_ow, noRA_io, noRA_no, noRA_al, Plc, demE, List.foldl_cons, List.foldl_nil, List.map_cons, List.map_nil, List.set_cons_zero, List.set_cons_succ, endsOf, ↓outsOf, Option.map_some, plSet, TL.putAt, T.put, true_and, and_true, lst_set, lst_snoc, lm_set, lm_snoc, shOnly, shE_ow0, shE_ow1, shE_io, shE_no, Option.isSome_some, reduceIte, if_true, if_false, Bool.false_eq_true, Nat.reduceEqDiff]
      refine ifS (fun c => ?_) fun c => ?_
      · have c := of_decide_eq_true c
        have hlx := hlx c
        rw [if_pos c] at st
        have u1 := until_get (tl := tl) (i := tl.length) (k := j) (by omega)
        rw [if_pos (by omega)] at u1
        refine gIx_k hil ?_
        rw [g30, hj]
        refine gIx_i u1 ⟨rfl, ?_⟩
        simp -dsimp only [↓uSeq, ↓uNext, ↓uFor, ↓uSt, ↓uStV, ↓uAu, ↓uAp, ↓uApMv, ↓uAuN, ↓uAlias, ↓uDem, ↓uBrk, ↓uCnt, ↓uNev, ↓uRet, ↓uRetN, ↓uExp, ↓uExpP, ↓uRaise1, ↓wCallX, ↓uExpX, ↓uRetX, ↓uSetX, ↓uTryE, ↓gLtT, ↓iRngD, ↓vSortP, ↓vCat, ↓vCatV, ↓gCat, ↓uSet, ↓uSetR, ↓uIf, ↓wVar, ↓wVarV, ↓wC, ↓w1, ↓w2, ↓wT, asB, ↓wChain, ↓wNil, ↓wCons, ↓wAnd, ↓wOr, ↓wNot, ↓wAndV, ↓wOrV, ↓wNotV, ↓wIf, ↓wCallP, ↓wCallV, ↓wCa, ↓wTup, ↓wLst, ↓oNon, ↓oSom, ↓wSlice, ↓wRev, ↓vP, ↓vSh, ↓vFit, ↓vaNil, ↓vaCons, ↓vLst, ↓vTup, ↓vTup0, ↓vList, ↓vRep, ↓vSlice, ↓cSl, ↓vCallN, ↓v1, ↓vCa, ↓vIx, ↓tP, ↓vAnd, ↓vOr, ↓vNot, ↓vIf, ↓vT, ↓v2, ↓vLc, ↓gI2, ↓gI2c, ↓gLen, ↓gII, ↓gI, ↓gInt1, ↓gRep, ↓gKids, ↓gIn, ↓iLst, ↓TL.iTup, ↓TL.iRng1, ↓TL.iRng2, ↓iEn, ↓iZp, ↓hName, ↓hCons, ↓hNil, ↓hTup, ↓wSl, ↓wIsi, ↓wYes, rho0, iniE, entOf, allSh, List.replicate, List.length_cons, List.length_nil, Nat.reduceAdd, Nat.reduceSub, Nat.reduceLT, Nat.reduceLeDiff, List.cons_append, List.nil_append, List.getElem?_cons_zero, List.getElem?_cons_succ, Option.bind_some, Ent.tr, Ent.own, Ent.put, setE, killA, noAl_ow, noAl_io1, noAl_no, noAl_ro, noAl_al', killJ_cons, killJ_nil0, noRo_ow, noRo_io, noRo_no, noRo_al, mem1, notIn, noRA_ow, noRA_io, noRA_no, noRA_al, Plc, demE, List.foldl_cons, List.foldl_nil, List.map_cons, List.map_nil, List.set_cons_zero, List.set_cons_succ, endsOf, ↓outsOf, Option.map_some, plSet, TL.putAt, T.put, true_and, and_true, lst_set, lst_snoc, lm_set, lm_snoc, shOnly, shE_ow0, shE_ow1, shE_io, shE_no, Option.isSome_some, reduceIte, if_true, if_false, Bool.false_eq_true, Nat.reduceEqDiff]
        refine gIx_a (by rw [wl]; omega) (gIx_k hil ?_)
        rw [g31]
        simp -dsimp only [↓uSeq, ↓uNext, ↓uFor, ↓uSt, ↓uStV, ↓uAu, ↓uAp, ↓uApMv, ↓uAuN, ↓uAlias, ↓uDem, ↓uBrk, ↓uCnt, ↓uNev, ↓uRet, ↓uRetN, ↓uExp, ↓uExpP, ↓uRaise1, ↓wCallX, ↓uExpX, ↓uRetX, ↓uSetX, ↓uTryE, ↓gLtT, ↓iRngD, ↓vSortP, ↓vCat, ↓vCatV, ↓gCat, ↓uSet, ↓uSetR, ↓uIf, ↓wVar, ↓wVarV, ↓wC, ↓w1, ↓w2, ↓wT, asB, ↓wChain, ↓wNil, ↓wCons, ↓wAnd, ↓wOr, ↓wNot, ↓wAndV, ↓wOrV, ↓wNotV, ↓wIf, ↓wCallP, ↓wCallV, ↓wCa, ↓wTup, ↓wLst, ↓oNon, ↓oSom, ↓wSlice, ↓wRev, ↓vP, ↓vSh, ↓vFit, ↓vaNil, ↓vaCons, ↓vLst, ↓vTup, ↓vTup0, ↓vList, ↓vRep, ↓vSlice, ↓cSl, ↓vCallN, ↓v1, ↓vCa, ↓vIx, ↓tP, ↓vAnd, ↓vOr, ↓vNot, ↓vIf, ↓vT, ↓v2, ↓vLc, ↓gI2, ↓gI2c, ↓gLen, ↓gII, ↓gI, ↓gInt1, ↓gRep, ↓gKids, ↓gIn, ↓iLst, ↓TL.iTup, ↓TL.iRng1, ↓TL.iRng2, ↓iEn, ↓iZp, ↓hName, ↓hCons, ↓hNil, ↓hTup, ↓wSl, ↓wIsi, ↓wYes, rho0, iniE, entOf, allSh, List.replicate, List.length_cons, List.length_nil, Nat.reduceAdd, Nat.reduceSub, Nat.reduceLT, Nat.reduceLeDiff, List.cons_append, List.nil_append, List.getElem?_cons_zero, List.getElem?_cons_succ, Option.bind_some, Ent.tr, Ent.own, Ent.put, setE, killA, noAl_ow, noAl_io1, noAl_no, noAl_ro, noAl_al', killJ_cons, killJ_nil0, noRo_ow, noRo_io, noRo_no, noRo_al, mem1, notIn, noRA_ow, noRA_io, noRA_no, noRA_al, Plc, demE, List.foldl_cons, List.foldl_nil, List.map_cons, List.map_nil, List.set_cons_zero, List.set_cons_succ, endsOf, ↓outsOf, Option.map_some, plSet, TL.putAt, T.put, true_and, and_true, lst_set, lst_snoc, lm_set, lm_snoc, shOnly, shE_ow0, shE_ow1, shE_io, shE_no, Option.isSome_some, reduceIte, if_true, if_false, Bool.false_eq_true, Nat.reduceEqDiff]
        rw [ixN_nat (by rw [List.length_map, wl]; omega)]
        refine ⟨rfl, fit0, ?_⟩
        rw [show (if (kAt kinds i).2.1 > aAt (worthF tl tl.length ((kinds.zip am).take i)) (lastN tl j) then (kAt kinds i).2.1 else aAt (worthF tl tl.length ((kinds.zip am).take i)) (lastN tl j)) = mx (aAt (worthF tl tl.length ((kinds.zip am).take i)) (lastN tl j)) (kAt kinds i).2.1 from rfl, ← st]
        exact ⟨_, _, _, _, rfl⟩
      · rw [if_neg (fun z => c (decide_eq_true z))] at st
        rw [st]
        exact ⟨_, _, _, _, rfl⟩
    obtain ⟨x5, x7, x8, x12, rfl⟩ := hI
    rw [rgT_len, show (kinds.zip am).take kinds.length = kinds.zip am from List.take_of_length_le (by rw [List.length_zip]; omega)]
    rw [← htl] at h
    have wl2 : (worthF tl tl.length (kinds.zip am)).length = tl.length + 1 := by unfold worthF; rw [w_len]; simp
    generalize worthF tl tl.length (kinds.zip am) = w0 at h wl2
    simp -dsimp only [↓uSeq, ↓uNext, ↓uFor, ↓uSt, ↓uStV, ↓uAu, ↓uAp, ↓uApMv, ↓uAuN, ↓uAlias, ↓uDem, ↓uBrk, ↓uCnt, ↓uNev, ↓uRet, ↓uRetN, ↓uExp, ↓uExpP, ↓uRaise1, ↓wCallX, ↓uExpX, ↓uRetX, ↓uSetX, ↓uTryE, ↓gLtT, ↓iRngD, ↓vSortP, ↓vCat, ↓vCatV, ↓gCat, ↓uSet, ↓uSetR, ↓uIf, ↓wVar, ↓wVarV, ↓wC, ↓w1, ↓w2, ↓wT, asB, ↓wChain, ↓wNil, ↓wCons, ↓wAnd, ↓wOr, ↓wNot, ↓wAndV, ↓wOrV, ↓wNotV, ↓wIf, ↓wCallP, ↓wCallV, ↓wCa, ↓wTup, ↓wLst, ↓oNon, ↓oSom, ↓wSlice, ↓wRev, ↓vP, ↓vSh, ↓vFit, ↓vaNil, ↓vaCons, ↓vLst, ↓vTup, ↓vTup0, ↓vList, ↓vRep, ↓vSlice, ↓cSl, ↓vCallN, ↓v1, ↓vCa, ↓vIx, ↓tP, ↓vAnd, ↓vOr, ↓vNot, ↓vIf, ↓vT, ↓v2, ↓vLc, ↓gI2, ↓gI2c, ↓gLen, ↓gII, ↓gI, ↓gInt1, ↓gRep, ↓gKids, ↓gIn, ↓iLst, ↓TL.iTup, ↓TL.iRng1, ↓TL.iRng2, ↓iEn, ↓iZp, ↓hName, ↓hCons, ↓hNil, ↓hTup, ↓wSl, ↓wIsi, ↓wYes, rho0, iniE, entOf, allSh, List.replicate, List.length_cons, List.length_nil, Nat.reduceAdd, Nat.reduceSub, Nat.reduceLT, Nat.reduceLeDiff, List.cons_append, List.nil_append, List.getElem?_cons_zero, List.getElem?_cons_succ, Option.bind_some, Ent.tr, Ent.own, Ent.put, setE, killA, noAl_ow, noAl_io1, noAl_no, noAl_ro, noAl_al', killJ_cons, killJ_nil0, noRo_ow, noRo_io, noRo_no, noRo_al, mem1, notIn, noRA_ow, noRA_io, noRA_no, noRA_al, Plc, demE, List.foldl_cons, List.foldl_nil, List.map_cons, List.map_nil, List.set_cons_zero, List.set_cons_succ, endsOf, ↓outsOf, Option.map_some, plSet, TL.putAt, T.put, true_and, and_true, lst_set, lst_snoc, lm_set, lm_snoc, shOnly, shE_ow0, shE_ow1, shE_io, shE_no, Option.isSome_some, reduceIte, if_true, if_false, Bool.false_eq_true, Nat.reduceEqDiff]
    rw [show ((tl.length : Int) - 1 - (0 - 1)).toNat = tl.length by omega]
    refine ⟨rfl, ⟨by omega, by omega, by omega, by omega⟩, fun i ρ => ∃ x5 x7 x8 x12, ρ = [Ent.ow 0 (Li lacks), Ent.ow 0 (Lk kinds), Ent.ow 1 (Li am), Ent.ow 0 (.int tl.length), Ent.ow 1 (Li fr), x5, Ent.ow 1 (Lb tl), x7, x8, Ent.ow 1 (Li (untilL tl tl.length)), Ent.ow 1 (Li (sufAt w0 tl.length i)), Ent.no, x12, Ent.no], ⟨_, _, _, _, by rw [sufAt_0 wl2]⟩, fun i t ρ hi hI => ?_, fun ρ hI => ?_⟩
    · obtain ⟨x5, x7, x8, x12, rfl⟩ := hI
      obtain ⟨hil, rfl⟩ := rgD_get.mp hi
      obtain ⟨k, hk'⟩ : ∃ k : Nat, k + i + 1 = tl.length := ⟨tl.length - 1 - i, by omega⟩
      rw [show (tl.length : Int) - 1 - (i : Int) = (k : Int) by omega]
      simp -dsimp only [↓uSeq, ↓uNext, ↓uFor, ↓uSt, ↓uStV, ↓uAu, ↓uAp, ↓uApMv, ↓uAuN, ↓uAlias, ↓uDem, ↓uBrk, ↓uCnt, ↓uNev, ↓uRet, ↓uRetN, ↓uExp, ↓uExpP, ↓uRaise1, ↓wCallX, ↓uExpX, ↓uRetX, ↓uSetX, ↓uTryE, ↓gLtT, ↓iRngD, ↓vSortP, ↓vCat, ↓vCatV, ↓gCat, ↓uSet, ↓uSetR, ↓uIf, ↓wVar, ↓wVarV, ↓wC, ↓w1, ↓w2, ↓wT, asB, ↓wChain, ↓wNil, ↓wCons, ↓wAnd, ↓wOr, ↓wNot, ↓wAndV, ↓wOrV, ↓wNotV, ↓wIf, ↓wCallP, ↓wCallV, ↓wCa, ↓wTup, ↓wLst, ↓oNon, ↓oSom, ↓wSlice, ↓wRev, ↓vP, ↓vSh, ↓vFit, ↓vaNil, ↓vaCons, ↓vLst, ↓vTup, ↓vTup0, ↓vList, ↓vRep, ↓vSlice, ↓cSl, ↓vCallN, ↓v1, ↓vCa, ↓vIx, ↓tP, ↓vAnd, ↓vOr, ↓vNot, ↓vIf, ↓vT, ↓v2, ↓vLc, ↓gI2, ↓gI2c, ↓gLen, ↓gII, ↓gI, ↓gInt1, ↓gRep, ↓gKids, ↓gIn, ↓iLst, ↓TL.iTup, ↓TL.iRng1, ↓TL.iRng2, ↓iEn, ↓iZp, ↓hName, ↓hCons, ↓hNil, ↓hTup, ↓wSl, ↓wIsi, ↓wYes, rho0, iniE, entOf, allSh, List.replicate, List.length_cons, List.length_nil, Nat.reduceAdd, Nat.reduceSub, Nat.reduceLT, Nat.reduceLeDiff, List.cons_append, List.nil_append, List.getElem?_cons_zero, List.getElem?_cons_succ, Option.bind_some, Ent.tr, Ent.own, Ent.put, setE, killA, noAl_ow, noAl_io1, noAl_no, noAl_ro, noAl_al', killJ_cons, killJ_nil0, noRo_ow, noRo_io, noRo_no, noRo_al, mem1, notIn, noRA_ow, noRA_io, noRA_no, noRA_al, Plc, demE, List.foldl_cons, List.foldl_nil, List.map_cons, List.map_nil, List.set_cons_zero, List.set_cons_succ, endsOf, ↓outsOf, Option.map_some, plSet, TL.putAt, T.put, true_and, and_true, lst_set, lst_snoc, lm_set, lm_snoc, shOnly, shE_ow0, shE_ow1, shE_io, shE_no, Option.isSome_some, reduceIte, if_true, if_false, Bool.false_eq_true, Nat.reduceEqDiff]
      refine gIx_i (sufAt_lo wl2 hk') ?_
      rw [show (k : Int) + 1 = ((k + 1 : Nat) : Int) by omega]
      refine gIx_i (sufAt_hi wl2 hk') ⟨rfl, ?_⟩
      rw [ixN_nat (by rw [List.length_map, sufAt_len]; omega)]
      refine ⟨fit0, ?_⟩
      rw [show (if aAt (sufL (w0.drop (k + 1))) 0 > aAt w0 k then aAt (sufL (w0.drop (k + 1))) 0 else aAt w0 k) = mx (aAt w0 k) (aAt (sufL (w0.drop (k + 1))) 0) from rfl, sufAt_step wl2 hk']
      exact ⟨_, _, _, _, rfl⟩
    obtain ⟨x5, x7, x8, x12, rfl⟩ := hI
    rw [rgD_len, sufAt_n]
    have fl : (sufL w0).length = tl.length + 1 := by rw [suf_len]; exact wl2
    generalize sufL w0 = F at h fl
    simp -dsimp only [↓uSeq, ↓uNext, ↓uFor, ↓uSt, ↓uStV, ↓uAu, ↓uAp, ↓uApMv, ↓uAuN, ↓uAlias, ↓uDem, ↓uBrk, ↓uCnt, ↓uNev, ↓uRet, ↓uRetN, ↓uExp, ↓uExpP, ↓uRaise1, ↓wCallX, ↓uExpX, ↓uRetX, ↓uSetX, ↓uTryE, ↓gLtT, ↓iRngD, ↓vSortP, ↓vCat, ↓vCatV, ↓gCat, ↓uSet, ↓uSetR, ↓uIf, ↓wVar, ↓wVarV, ↓wC, ↓w1, ↓w2, ↓wT, asB, ↓wChain, ↓wNil, ↓wCons, ↓wAnd, ↓wOr, ↓wNot, ↓wAndV, ↓wOrV, ↓wNotV, ↓wIf, ↓wCallP, ↓wCallV, ↓wCa, ↓wTup, ↓wLst, ↓oNon, ↓oSom, ↓wSlice, ↓wRev, ↓vP, ↓vSh, ↓vFit, ↓vaNil, ↓vaCons, ↓vLst, ↓vTup, ↓vTup0, ↓vList, ↓vRep, ↓vSlice, ↓cSl, ↓vCallN, ↓v1, ↓vCa, ↓vIx, ↓tP, ↓vAnd, ↓vOr, ↓vNot, ↓vIf, ↓vT, ↓v2, ↓vLc, ↓gI2, ↓gI2c, ↓gLen, ↓gII, ↓gI, ↓gInt1, ↓gRep, ↓gKids, ↓gIn, ↓iLst, ↓TL.iTup, ↓TL.iRng1, ↓TL.iRng2, ↓iEn, ↓iZp, ↓hName, ↓hCons, ↓hNil, ↓hTup, ↓wSl, ↓wIsi, ↓wYes, rho0, iniE, entOf, allSh, List.replicate, List.length_cons, List.length_nil, Nat.reduceAdd, Nat.reduceSub, Nat.reduceLT, Nat.reduceLeDiff, List.cons_append, List.nil_append, List.getElem?_cons_zero, List.getElem?_cons_succ, Option.bind_some, Ent.tr, Ent.own, Ent.put, setE, killA, noAl_ow, noAl_io1, noAl_no, noAl_ro, noAl_al', killJ_cons, killJ_nil0, noRo_ow, noRo_io, noRo_no, noRo_al, mem1, notIn, noRA_ow, noRA_io, noRA_no, noRA_al, Plc, demE, List.foldl_cons, List.foldl_nil, List.map_cons, List.map_nil, List.set_cons_zero, List.set_cons_succ, endsOf, ↓outsOf, Option.map_some, plSet, TL.putAt, T.put, true_and, and_true, lst_set, lst_snoc, lm_set, lm_snoc, shOnly, shE_ow0, shE_ow1, shE_io, shE_no, Option.isSome_some, reduceIte, if_true, if_false, Bool.false_eq_true, Nat.reduceEqDiff]
    refine ⟨by omega, by omega, ?_⟩
    refine ⟨fun i acc ρ => acc = ((pricesF F tl.length).take i).map T.int ∧ ∃ x5 x7 x12, ρ = [Ent.ow 0 (Li lacks), Ent.ow 0 (Lk kinds), Ent.ow 1 (Li am), Ent.ow 0 (.int tl.length), Ent.ow 1 (Li fr), x5, Ent.ow 1 (Lb tl), x7, Ent.no, Ent.ow 1 (Li (untilL tl tl.length)), Ent.ow 1 (Li F), Ent.no, x12, Ent.no], ⟨rfl, _, _, _, rfl⟩, fun i t acc ρ hi hI => ?_, fun acc ρ hI => ?_⟩
    · obtain ⟨rfl, x5, x7, x12, rfl⟩ := hI
      obtain ⟨hil, rfl⟩ := rgT_get.mp hi
      rw [Int.toNat_natCast] at hil
      rw [Int.zero_add]
      simp -dsimp only [↓uSeq, ↓uNext, ↓uFor, ↓uSt, ↓uStV, ↓uAu, ↓uAp, ↓uApMv, ↓uAuN, ↓uAlias, ↓uDem, ↓uBrk, ↓uCnt, ↓uNev, ↓uRet, ↓uRetN, ↓uExp, ↓uExpP, ↓uRaise1, ↓wCallX, ↓uExpX, ↓uRetX, ↓uSetX, ↓uTryE, ↓gLtT, ↓iRngD, ↓vSortP, ↓vCat, ↓vCatV, ↓gCat, ↓uSet, ↓uSetR, ↓uIf, ↓wVar, ↓wVarV, ↓wC, ↓w1, ↓w2, ↓wT, asB, ↓wChain, ↓wNil, ↓wCons, ↓wAnd, ↓wOr, ↓wNot, ↓wAndV, ↓wOrV, ↓wNotV, ↓wIf, ↓wCallP, ↓wCallV, ↓wCa, ↓wTup, ↓wLst, ↓oNon, ↓oSom, ↓wSlice, ↓wRev, ↓vP, ↓vSh, ↓vFit, ↓vaNil, ↓vaCons, ↓vLst, ↓vTup, ↓vTup0, ↓vList, ↓vRep, ↓vSlice, ↓cSl, ↓vCallN, ↓v1, ↓vCa, ↓vIx, ↓tP, ↓vAnd, ↓vOr, ↓vNot, ↓vIf, ↓vT, ↓v2, ↓vLc, ↓gI2, ↓gI2c, ↓gLen, ↓gII, ↓gI, ↓gInt1, ↓gRep, ↓gKids, ↓gIn, ↓iLst, ↓TL.iTup, ↓TL.iRng1, ↓TL.iRng2, ↓iEn, ↓iZp, ↓hName, ↓hCons, ↓hNil, ↓hTup, ↓wSl, ↓wIsi, ↓wYes, rho0, iniE, entOf, allSh, List.replicate, List.length_cons, List.length_nil, Nat.reduceAdd, Nat.reduceSub, Nat.reduceLT, Nat.reduceLeDiff, List.cons_append, List.nil_append, List.getElem?_cons_zero, List.getElem?_cons_succ, Option.bind_some, Ent.tr, Ent.own, Ent.put, setE, killA, noAl_ow, noAl_io1, noAl_no, noAl_ro, noAl_al', killJ_cons, killJ_nil0, noRo_ow, noRo_io, noRo_no, noRo_al, mem1, notIn, noRA_ow, noRA_io, noRA_no, noRA_al, Plc, demE, List.foldl_cons, List.foldl_nil, List.map_cons, List.map_nil, List.set_cons_zero, List.set_cons_succ, endsOf, ↓outsOf, Option.map_some, plSet, TL.putAt, T.put, true_and, and_true, lst_set, lst_snoc, lm_set, lm_snoc, shOnly, shE_ow0, shE_ow1, shE_io, shE_no, Option.isSome_some, reduceIte, if_true, if_false, Bool.false_eq_true, Nat.reduceEqDiff]
      refine gIx_a (by omega) ?_
      refine gIx_a (j := i + 1) (by omega) ?_
      refine ⟨rfl, fit0, ?_, ?_, _, _, _, rfl⟩
      · rw [List.length_map, List.length_take]; omega
      · refine li_snoc ?_
        unfold pricesF
        rw [List.getElem?_map, List.getElem?_range hil]; rfl
    obtain ⟨rfl, x5, x7, x12, rfl⟩ := hI
    rw [rgT_len, Int.toNat_natCast, show (pricesF F tl.length).take tl.length = pricesF F tl.length from List.take_of_length_le (by unfold pricesF; simp)]
    simp -dsimp only [↓uSeq, ↓uNext, ↓uFor, ↓uSt, ↓uStV, ↓uAu, ↓uAp, ↓uApMv, ↓uAuN, ↓uAlias, ↓uDem, ↓uBrk, ↓uCnt, ↓uNev, ↓uRet, ↓uRetN, ↓uExp, ↓uExpP, ↓uRaise1, ↓wCallX, ↓uExpX, ↓uRetX, ↓uSetX, ↓uTryE, ↓gLtT, ↓iRngD, ↓vSortP, ↓vCat, ↓vCatV, ↓gCat, ↓uSet, ↓uSetR, ↓uIf, ↓wVar, ↓wVarV, ↓wC, ↓w1, ↓w2, ↓wT, asB, ↓wChain, ↓wNil, ↓wCons, ↓wAnd, ↓wOr, ↓wNot, ↓wAndV, ↓wOrV, ↓wNotV, ↓wIf, ↓wCallP, ↓wCallV, ↓wCa, ↓wTup, ↓wLst, ↓oNon, ↓oSom, ↓wSlice, ↓wRev, ↓vP, ↓vSh, ↓vFit, ↓vaNil, ↓vaCons, ↓vLst, ↓vTup, ↓vTup0, ↓vList, ↓vRep, ↓vSlice, ↓cSl, ↓vCallN, ↓v1, ↓vCa, ↓vIx, ↓tP, ↓vAnd, ↓vOr, ↓vNot, ↓vIf, ↓vT, ↓v2, ↓vLc, ↓gI2, ↓gI2c, ↓gLen, ↓gII, ↓gI, ↓gInt1, ↓gRep, ↓gKids, ↓gIn, ↓iLst, ↓TL.iTup, ↓TL.iRng1, ↓TL.iRng2, ↓iEn, ↓iZp, ↓hName, ↓hCons, ↓hNil, ↓hTup, ↓wSl, ↓wIsi, ↓wYes, rho0, iniE, entOf, allSh, List.replicate, List.length_cons, List.length_nil, Nat.reduceAdd, Nat.reduceSub, Nat.reduceLT, Nat.reduceLeDiff, List.cons_append, List.nil_append, List.getElem?_cons_zero, List.getElem?_cons_succ, Option.bind_some, Ent.tr, Ent.own, Ent.put, setE, killA, noAl_ow, noAl_io1, noAl_no, noAl_ro, noAl_al', killJ_cons, killJ_nil0, noRo_ow, noRo_io, noRo_no, noRo_al, mem1, notIn, noRA_ow, noRA_io, noRA_no, noRA_al, Plc, demE, List.foldl_cons, List.foldl_nil, List.map_cons, List.map_nil, List.set_cons_zero, List.set_cons_succ, endsOf, ↓outsOf, Option.map_some, plSet, TL.putAt, T.put, true_and, and_true, lst_set, lst_snoc, lm_set, lm_snoc, shOnly, shE_ow0, shE_ow1, shE_io, shE_no, Option.isSome_some, reduceIte, if_true, if_false, Bool.false_eq_true, Nat.reduceEqDiff]
    refine ⟨.inl (Nat.le_refl _), .inl (Nat.le_refl _), fun i acc ρ => acc = ((rentsF F kinds).take i).map T.int ∧ ∃ x0 x5 x7 x12 xa xb, ρ = [x0, Ent.ow 0 (Lk kinds), xa, Ent.ow 0 (.int tl.length), Ent.ow 1 (Li fr), x5, Ent.ow 1 (Lb tl), x7, Ent.no, Ent.ow 1 (Li (untilL tl tl.length)), Ent.ow 1 (Li F), xb, x12, Ent.no], ⟨rfl, _, _, _, _, _, _, rfl⟩, fun i t acc ρ hi hI => ?_, fun acc ρ hI => ?_⟩
    · obtain ⟨rfl, x0, x5, x7, x12, xa, xb, rfl⟩ := hI
      obtain ⟨x, hx, rfl⟩ := mapk_get.mp hi
      have hxg := hg.2 _ (List.mem_of_getElem? hx)
      have hxi := (List.getElem?_eq_some_iff.mp hx).1
      obtain ⟨j, hj⟩ := Int.eq_ofNat_of_zero_le hxg.1.1
      simp -dsimp only [g30, g31, ↓uSeq, ↓uNext, ↓uFor, ↓uSt, ↓uStV, ↓uAu, ↓uAp, ↓uApMv, ↓uAuN, ↓uAlias, ↓uDem, ↓uBrk, ↓uCnt, ↓uNev, ↓uRet, ↓uRetN, ↓uExp, ↓uExpP, ↓uRaise1, ↓wCallX, ↓uExpX, ↓uRetX, ↓uSetX, ↓uTryE, ↓gLtT, ↓iRngD, ↓vSortP, ↓vCat, ↓vCatV, ↓gCat, ↓uSet, ↓uSetR, ↓uIf, ↓wVar, ↓wVarV, ↓wC, ↓w1, ↓w2, ↓wT, asB, ↓wChain, ↓wNil, ↓wCons, ↓wAnd, ↓wOr, ↓wNot, ↓wAndV, ↓wOrV, ↓wNotV, ↓wIf, ↓wCallP, ↓wCallV, ↓wCa, ↓wTup, ↓wLst, ↓oNon, ↓oSom, ↓wSlice, ↓wRev, ↓vP, ↓vSh, ↓vFit, ↓vaNil, ↓vaCons, ↓vLst, ↓vTup, ↓vTup0, ↓vList, ↓vRep, ↓vSlice, ↓cSl, ↓vCallN, ↓v1, ↓vCa, ↓vIx, ↓tP, ↓vAnd, ↓vOr, ↓vNot, ↓vIf, ↓vT, ↓v2, ↓vLc, ↓gI2, ↓gI2c, ↓gLen, ↓gII, ↓gI, ↓gInt1, ↓gRep, ↓gKids, ↓gIn, ↓iLst, ↓TL.iTup, ↓TL.iRng1, ↓TL.iRng2, ↓iEn, ↓iZp, ↓hName, ↓hCons, ↓hNil, ↓hTup, ↓wSl, ↓wIsi, ↓wYes, rho0, iniE, entOf, allSh, List.replicate, List.length_cons, List.length_nil, Nat.reduceAdd, Nat.reduceSub, Nat.reduceLT, Nat.reduceLeDiff, List.cons_append, List.nil_append, List.getElem?_cons_zero, List.getElem?_cons_succ, Option.bind_some, Ent.tr, Ent.own, Ent.put, setE, killA, noAl_ow, noAl_io1, noAl_no, noAl_ro, noAl_al', killJ_cons, killJ_nil0, noRo_ow, noRo_io, noRo_no, noRo_al, mem1, notIn, noRA_ow, noRA_io, noRA_no, noRA_al, Plc, demE, List.foldl_cons, List.foldl_nil, List.map_cons, List.map_nil, List.set_cons_zero, List.set_cons_succ, endsOf, ↓outsOf, Option.map_some, plSet, TL.putAt, T.put, true_and, and_true, lst_set, lst_snoc, lm_set, lm_snoc, shOnly, shE_ow0, shE_ow1, shE_io, shE_no, Option.isSome_some, reduceIte, if_true, if_false, Bool.false_eq_true, Nat.reduceEqDiff]
      rw [hj]
      have hjl := hxg.1.2
      refine gIx_a (by omega) ?_
      simp -dsimp only [↓uSeq, ↓uNext, ↓uFor, ↓uSt, ↓uStV, ↓uAu, ↓uAp, ↓uApMv, ↓uAuN, ↓uAlias, ↓uDem, ↓uBrk, ↓uCnt, ↓uNev, ↓uRet, ↓uRetN, ↓uExp, ↓uExpP, ↓uRaise1, ↓wCallX, ↓uExpX, ↓uRetX, ↓uSetX, ↓uTryE, ↓gLtT, ↓iRngD, ↓vSortP, ↓vCat, ↓vCatV, ↓gCat, ↓uSet, ↓uSetR, ↓uIf, ↓wVar, ↓wVarV, ↓wC, ↓w1, ↓w2, ↓wT, asB, ↓wChain, ↓wNil, ↓wCons, ↓wAnd, ↓wOr, ↓wNot, ↓wAndV, ↓wOrV, ↓wNotV, ↓wIf, ↓wCallP, ↓wCallV, ↓wCa, ↓wTup, ↓wLst, ↓oNon, ↓oSom, ↓wSlice, ↓wRev, ↓vP, ↓vSh, ↓vFit, ↓vaNil, ↓vaCons, ↓vLst, ↓vTup, ↓vTup0, ↓vList, ↓vRep, ↓vSlice, ↓cSl, ↓vCallN, ↓v1, ↓vCa, ↓vIx, ↓tP, ↓vAnd, ↓vOr, ↓vNot, ↓vIf, ↓vT, ↓v2, ↓vLc, ↓gI2, ↓gI2c, ↓gLen, ↓gII, ↓gI, ↓gInt1, ↓gRep, ↓gKids, ↓gIn, ↓iLst, ↓TL.iTup, ↓TL.iRng1, ↓TL.iRng2, ↓iEn, ↓iZp, ↓hName, ↓hCons, ↓hNil, ↓hTup, ↓wSl, ↓wIsi, ↓wYes, rho0, iniE, entOf, allSh, List.replicate, List.length_cons, List.length_nil, Nat.reduceAdd, Nat.reduceSub, Nat.reduceLT, Nat.reduceLeDiff, List.cons_append, List.nil_append, List.getElem?_cons_zero, List.getElem?_cons_succ, Option.bind_some, Ent.tr, Ent.own, Ent.put, setE, killA, noAl_ow, noAl_io1, noAl_no, noAl_ro, noAl_al', killJ_cons, killJ_nil0, noRo_ow, noRo_io, noRo_no, noRo_al, mem1, notIn, noRA_ow, noRA_io, noRA_no, noRA_al, Plc, demE, List.foldl_cons, List.foldl_nil, List.map_cons, List.map_nil, List.set_cons_zero, List.set_cons_succ, endsOf, ↓outsOf, Option.map_some, plSet, TL.putAt, T.put, true_and, and_true, lst_set, lst_snoc, lm_set, lm_snoc, shOnly, shE_ow0, shE_ow1, shE_io, shE_no, Option.isSome_some, reduceIte, if_true, if_false, Bool.false_eq_true, Nat.reduceEqDiff]
      refine ⟨rfl, fit0, ?_, ?_, _, _, _, _, _, _, rfl⟩
      · rw [List.length_map, List.length_take]; omega
      · refine li_snoc ?_
        unfold rentsF
        rw [List.getElem?_map, hx]
        show some (mx 0 (F.getD x.1.toNat 0 - x.2.1)) = _
        rw [hj]; rfl
    · obtain ⟨rfl, x0, x5, x7, x12, xa, xb, rfl⟩ := hI
      rw [List.length_map, show (rentsF F kinds).take kinds.length = rentsF F kinds from List.take_of_length_le (by unfold rentsF; simp)]
      simp -dsimp only [↓uSeq, ↓uNext, ↓uFor, ↓uSt, ↓uStV, ↓uAu, ↓uAp, ↓uApMv, ↓uAuN, ↓uAlias, ↓uDem, ↓uBrk, ↓uCnt, ↓uNev, ↓uRet, ↓uRetN, ↓uExp, ↓uExpP, ↓uRaise1, ↓wCallX, ↓uExpX, ↓uRetX, ↓uSetX, ↓uTryE, ↓gLtT, ↓iRngD, ↓vSortP, ↓vCat, ↓vCatV, ↓gCat, ↓uSet, ↓uSetR, ↓uIf, ↓wVar, ↓wVarV, ↓wC, ↓w1, ↓w2, ↓wT, asB, ↓wChain, ↓wNil, ↓wCons, ↓wAnd, ↓wOr, ↓wNot, ↓wAndV, ↓wOrV, ↓wNotV, ↓wIf, ↓wCallP, ↓wCallV, ↓wCa, ↓wTup, ↓wLst, ↓oNon, ↓oSom, ↓wSlice, ↓wRev, ↓vP, ↓vSh, ↓vFit, ↓vaNil, ↓vaCons, ↓vLst, ↓vTup, ↓vTup0, ↓vList, ↓vRep, ↓vSlice, ↓cSl, ↓vCallN, ↓v1, ↓vCa, ↓vIx, ↓tP, ↓vAnd, ↓vOr, ↓vNot, ↓vIf, ↓vT, ↓v2, ↓vLc, ↓gI2, ↓gI2c, ↓gLen, ↓gII, ↓gI, ↓gInt1, ↓gRep, ↓gKids, ↓gIn, ↓iLst, ↓TL.iTup, ↓TL.iRng1, ↓TL.iRng2, ↓iEn, ↓iZp, ↓hName, ↓hCons, ↓hNil, ↓hTup, ↓wSl, ↓wIsi, ↓wYes, rho0, iniE, entOf, allSh, List.replicate, List.length_cons, List.length_nil, Nat.reduceAdd, Nat.reduceSub, Nat.reduceLT, Nat.reduceLeDiff, List.cons_append, List.nil_append, List.getElem?_cons_zero, List.getElem?_cons_succ, Option.bind_some, Ent.tr, Ent.own, Ent.put, setE, killA, noAl_ow, noAl_io1, noAl_no, noAl_ro, noAl_al', killJ_cons, killJ_nil0, noRo_ow, noRo_io, noRo_no, noRo_al, mem1, notIn, noRA_ow, noRA_io, noRA_no, noRA_al, Plc, demE, List.foldl_cons, List.foldl_nil, List.map_cons, List.map_nil, List.set_cons_zero, List.set_cons_succ, endsOf, ↓outsOf, Option.map_some, plSet, TL.putAt, T.put, true_and, and_true, lst_set, lst_snoc, lm_set, lm_snoc, shOnly, shE_ow0, shE_ow1, shE_io, shE_no, Option.isSome_some, reduceIte, if_true, if_false, Bool.false_eq_true, Nat.reduceEqDiff]
      exact ⟨.inl (Nat.le_refl _), .inl (Nat.le_refl _), h⟩
end
end K89
set_option Elab.async false
set_option linter.all false
set_option maxRecDepth 100000
namespace K89
open PySem PySem.Spec PyProof.Rows L2 L2H TL
section
variable {P : Program} {w : World} {K : PySem.W.Frag} {mg : Str → Option Value} {base : Heap}
theorem pk {v : T} {xs : List Int} (h : v ∈ xs.map T.int) : ∃ x, x ∈ xs ∧ v = .int x := by
  obtain ⟨x, hx, rfl⟩ := List.mem_map.mp h
  exact ⟨x, hx, rfl⟩
def W__law_drawn_lacks : FnT := fun ts R => ∃ (a b c : Int), ts = [Li [a, b, c]] ∧ ∀ (xs : List Int) a' c', xs.length ≤ 400 → R 1 (Li xs) [Li [a', b, c']]
set_option maxHeartbeats 4000000 in
theorem ok__law_drawn_lacks {k : Nat} (G : Gs K mg) : FnOk P w K mg base CX0 (k + 4) G.g__law_drawn_lacks.f G.g__law_drawn_lacks.d ["pool"] (spT K [.io 1] W__law_drawn_lacks) := by
  refine fnT (k := k + 3) G.g__law_drawn_lacks.F sc__law_drawn_lacks rfl (fun X cdv A outer s H E hX hr => ?_)
  subst hX
  refine ⟨_, (ts_cons (ts_set 1 sc__law_drawn_lacks.nd rfl (.inl rfl) (tv_call (ok__law_draw (k := k + 1) G) hr (by rfl) G.g__law_draw.g G.g__law_draw.F.kp G.g__law_draw.b (tca_sl 0 (tca_tv 0 (tv_p tp_int) tca_nil))))
      (ts_cons (ts_set 2 sc__law_drawn_lacks.nd rfl (.inl rfl) (tv_op op_add opT_int (tv_p tp_int) (tv_call (ok__law_draw (k := k + 1) G) hr (by rfl) G.g__law_draw.g G.g__law_draw.F.kp G.g__law_draw.b (tca_sl 0 (tca_tv 0 (tv_p tp_int) tca_nil)))))
      (ts_consM (ts_if (tvt_p (tpt_cmp op_eq opT_eqS (tp_var 1) tp_int (nomark _))) (ts_one (ts_set 2 sc__law_drawn_lacks.nd rfl (.inl rfl) (tv_call (ok__law_pick (k := k + 0) G) hr (by rfl) G.g__law_pick.g G.g__law_pick.F.kp G.g__law_pick.b (tca_sl 0 (tca_tv 0 (tv_sh (tp_lst (tpa_cons tp_int (tpa_cons tp_int (tpa_cons tp_int (tpa_cons tp_int tpa_nil)))))) tca_nil))))) ts_nil)
      (ts_cons (ts_set 3 sc__law_drawn_lacks.nd rfl (.inl rfl) (tv_op op_sub opT_int (tv_p tp_int) (tv_call (ok__law_draw (k := k + 1) G) hr (by rfl) G.g__law_draw.g G.g__law_draw.F.kp G.g__law_draw.b (tca_sl 0 (tca_tv 0 (tv_p tp_int) tca_nil)))))
      (ts_cons (ts_set 4 sc__law_drawn_lacks.nd rfl (.inl rfl) (tv_call (ok__law_draw (k := k + 1) G) hr (by rfl) G.g__law_draw.g G.g__law_draw.F.kp G.g__law_draw.b (tca_sl 0 (tca_tv 0 (tv_p tp_int) tca_nil))))
      (ts_cons (ts_set 5 sc__law_drawn_lacks.nd rfl (.inl rfl) (tv_call (ok__law_pick (k := k + 0) G) hr (by rfl) G.g__law_pick.g G.g__law_pick.F.kp G.g__law_pick.b (tca_sl 0 (tca_tv 0 (tv_sh (tp_lst (tpa_cons tp_int (tpa_cons tp_int (tpa_cons tp_int (tpa_cons tp_int tpa_nil)))))) tca_nil))))
      (ts_cons (ts_set 6 sc__law_drawn_lacks.nd rfl (.inl rfl) (tv_lst 0 tva_nil (by simp) (by decide)))
      (ts_cons (ts_for PassesOwn.never rfl (ti_rng1 (by rfl) G.z_range (tp_var 2)) (tg_name 7 sc__law_drawn_lacks.nd rfl (.inl rfl)) (ts_one (ts_app 6 (tv_op op_add opT_int (tv_p (tp_op op_add opT_int (tp_var 3) (tp_op op_mul opT_intc (tp_var 4) (tp_callB (call_min2 rfl) caT_ii (by rfl) G.z_min (by decide +kernel) (tpa_cons (tp_var 7) (tpa_cons tp_int tpa_nil)))))) (tv_call (ok__law_draw (k := k + 1) G) hr (by rfl) G.g__law_draw.g G.g__law_draw.F.kp G.g__law_draw.b (tca_sl 0 (tca_tv 0 (tv_p (tp_var 5)) tca_nil)))))))
      (ts_consM (ts_if (tvt_p (TPW.pt (tpw_or (tpt_cmp op_eq opT_eqS (tp_var 1) tp_int (nomark _)) (tpw_or1 (tpt_cmp op_eq opT_eqS (tp_var 1) tp_int (nomark _)))))) (ts_cons (ts_set 8 sc__law_drawn_lacks.nd rfl (.inl rfl) (tv_call (ok__law_pick (k := k + 0) G) hr (by rfl) G.g__law_pick.g G.g__law_pick.F.kp G.g__law_pick.b (tca_sl 0 (tca_tv 0 (tv_sh (tp_lst (tpa_cons tp_int (tpa_cons tp_int (tpa_cons tp_int (tpa_cons (tp_op op_pow opT_intc tp_int tp_int) (tpa_cons (tp_op op_add opT_int (tp_op op_pow opT_intc tp_int tp_int) tp_int) tpa_nil))))))) tca_nil))))
      (ts_one (ts_for PassesOwn.never rfl (ti_rng1 (by rfl) G.z_range (tp_var 2)) (tg_name 7 sc__law_drawn_lacks.nd rfl (.inl rfl)) (ts_consM (ts_if (tvt_cmp op_eq opT_eqS (tv_call (ok__law_draw (k := k + 1) G) hr (by rfl) G.g__law_draw.g G.g__law_draw.F.kp G.g__law_draw.b (tca_sl 0 (tca_tv 0 (tv_p tp_int) tca_nil))) (tv_p tp_int) (nomark _)) (ts_one (ts_store 6 (tv_call (ok__law_draw (k := k + 1) G) hr (by rfl) G.g__law_draw.g G.g__law_draw.F.kp G.g__law_draw.b (tca_sl 0 (tca_tv 0 (tv_p (tp_var 8)) tca_nil))) (tp_var 7))) ts_nil)
      (ts_one (ts_if (tvt_cmp op_eq opT_eqS (tv_call (ok__law_draw (k := k + 1) G) hr (by rfl) G.g__law_draw.g G.g__law_draw.F.kp G.g__law_draw.b (tca_sl 0 (tca_tv 0 (tv_p tp_int) tca_nil))) (tv_p tp_int) (nomark _)) (ts_one (ts_store 6 (tv_op op_sub opT_int (tv_p tp_int) (tv_call (ok__law_draw (k := k + 1) G) hr (by rfl) G.g__law_draw.g G.g__law_draw.F.kp G.g__law_draw.b (tca_sl 0 (tca_tv 0 (tv_p (tp_var 8)) tca_nil)))) (tp_var 7))) ts_nil)))))) ts_nil)
      (ts_one (ts_ret (tv_var 6)))))))))))), fun ts R hW hlen => ?_⟩

  obtain ⟨a, b, c, rfl, h⟩ := hW
  simp -dsimp only [↓uSeq, ↓uNext, ↓uFor, ↓uSt, ↓uStV, ↓uAu, ↓uAp, ↓uApMv, ↓uAuN, ↓uAlias, ↓uDem, ↓uBrk, ↓uCnt, ↓uNev, ↓uRet, ↓uRetN, ↓uExp, ↓uExpP, ↓uRaise1, ↓wCallX, ↓uExpX, ↓uRetX, ↓uSetX, ↓uTryE, ↓gLtT, ↓iRngD, ↓vSortP, ↓vCat, ↓vCatV, ↓gCat, ↓uSet, ↓uSetR, ↓uIf, ↓wVar, ↓wVarV, ↓wC, ↓w1, ↓w2, ↓wT, asB, ↓wChain, ↓wNil, ↓wCons, ↓wAnd, ↓wOr, ↓wNot, ↓wAndV, ↓wOrV, ↓wNotV, ↓wIf, ↓wCallP, ↓wCallV, ↓wCa, ↓wTup, ↓wLst, ↓oNon, ↓oSom, ↓wSlice, ↓wRev, ↓vP, ↓vSh, ↓vFit, ↓vaNil, ↓vaCons, ↓vLst, ↓vTup, ↓vTup0, ↓vList, ↓vRep, ↓vSlice, ↓cSl, ↓vCallN, ↓v1, ↓vCa, ↓vIx, ↓tP, ↓vAnd, ↓vOr, ↓vNot, ↓vIf, ↓vT, ↓v2, ↓vLc, ↓gI2, ↓gI2c, ↓gLen, ↓gII, ↓gI, ↓gInt1, ↓gRep, ↓gKids, ↓gIn, ↓iLst, ↓TL.iTup, ↓TL.iRng1, ↓TL.iRng2, ↓iEn, ↓iZp, ↓hName, ↓hCons, ↓hNil, ↓hTup, ↓wSl, ↓wIsi, ↓wYes, rho0, iniE, entOf, allSh, List.replicate, List.length_cons, List.length_nil, Nat.reduceAdd, Nat.reduceSub, Nat.reduceLT, Nat.reduceLeDiff, List.cons_append, List.nil_append, List.getElem?_cons_zero, List.getElem?_cons_succ, Option.bind_some, Ent.tr, Ent.own, Ent.put, setE, killA, noAl_ow, noAl_io1, noAl_no, noAl_ro, noAl_al', killJ_cons, killJ_nil0, noRo_ow, noRo_io, noRo_no, noRo_al, mem1, notIn, noRA_ow, noRA_io, noRA_no, noRA_al, Plc, demE, List.foldl_cons, List.foldl_nil, List.map_cons, List.map_nil, List.set_cons_zero, List.set_cons_succ, endsOf, ↓outsOf, Option.map_some, plSet, TL.putAt, T.put, true_and, and_true, lst_set, lst_snoc, lm_set, lm_snoc, shOnly, shE_ow0, shE_ow1, shE_io, shE_no, Option.isSome_some, reduceIte, if_true, if_false, Bool.false_eq_true, Nat.reduceEqDiff]
  (repeat (first | refine ⟨rfl, ?_⟩ | refine ⟨fit0, ?_⟩))
  refine callDraw_io (by decide) (by decide) fun d1 a1 c1 l1 u1 => ?_
  simp -dsimp only [↓uSeq, ↓uNext, ↓uFor, ↓uSt, ↓uStV, ↓uAu, ↓uAp, ↓uApMv, ↓uAuN, ↓uAlias, ↓uDem, ↓uBrk, ↓uCnt, ↓uNev, ↓uRet, ↓uRetN, ↓uExp, ↓uExpP, ↓uRaise1, ↓wCallX, ↓uExpX, ↓uRetX, ↓uSetX, ↓uTryE, ↓gLtT, ↓iRngD, ↓vSortP, ↓vCat, ↓vCatV, ↓gCat, ↓uSet, ↓uSetR, ↓uIf, ↓wVar, ↓wVarV, ↓wC, ↓w1, ↓w2, ↓wT, asB, ↓wChain, ↓wNil, ↓wCons, ↓wAnd, ↓wOr, ↓wNot, ↓wAndV, ↓wOrV, ↓wNotV, ↓wIf, ↓wCallP, ↓wCallV, ↓wCa, ↓wTup, ↓wLst, ↓oNon, ↓oSom, ↓wSlice, ↓wRev, ↓vP, ↓vSh, ↓vFit, ↓vaNil, ↓vaCons, ↓vLst, ↓vTup, ↓vTup0, ↓vList, ↓vRep, ↓vSlice, ↓cSl, ↓vCallN, ↓v1, ↓vCa, ↓vIx, ↓tP, ↓vAnd, ↓vOr, ↓vNot, ↓vIf, ↓vT, ↓v2, ↓vLc, ↓gI2, ↓gI2c, ↓gLen, ↓gII, ↓gI, ↓gInt1, ↓gRep, ↓gKids, ↓gIn, ↓iLst, ↓TL.iTup, ↓TL.iRng1, ↓TL.iRng2, ↓iEn, ↓iZp, ↓hName, ↓hCons, ↓hNil, ↓hTup, ↓wSl, ↓wIsi, ↓wYes, rho0, iniE, entOf, allSh, List.replicate, List.length_cons, List.length_nil, Nat.reduceAdd, Nat.reduceSub, Nat.reduceLT, Nat.reduceLeDiff, List.cons_append, List.nil_append, List.getElem?_cons_zero, List.getElem?_cons_succ, Option.bind_some, Ent.tr, Ent.own, Ent.put, setE, killA, noAl_ow, noAl_io1, noAl_no, noAl_ro, noAl_al', killJ_cons, killJ_nil0, noRo_ow, noRo_io, noRo_no, noRo_al, mem1, notIn, noRA_ow, noRA_io, noRA_no, noRA_al, Plc, demE, List.foldl_cons, List.foldl_nil, List.map_cons, List.map_nil, List.set_cons_zero, List.set_cons_succ, endsOf, ↓outsOf, Option.map_some, plSet, TL.putAt, T.put, true_and, and_true, lst_set, lst_snoc, lm_set, lm_snoc, shOnly, shE_ow0, shE_ow1, shE_io, shE_no, Option.isSome_some, reduceIte, if_true, if_false, Bool.false_eq_true, Nat.reduceEqDiff]
  (repeat (first | refine ⟨rfl, ?_⟩ | refine ⟨fit0, ?_⟩))
  refine callDraw_io (by decide) (by decide) fun d2 a2 c2 l2 u2 => ?_
  simp -dsimp only [↓uSeq, ↓uNext, ↓uFor, ↓uSt, ↓uStV, ↓uAu, ↓uAp, ↓uApMv, ↓uAuN, ↓uAlias, ↓uDem, ↓uBrk, ↓uCnt, ↓uNev, ↓uRet, ↓uRetN, ↓uExp, ↓uExpP, ↓uRaise1, ↓wCallX, ↓uExpX, ↓uRetX, ↓uSetX, ↓uTryE, ↓gLtT, ↓iRngD, ↓vSortP, ↓vCat, ↓vCatV, ↓gCat, ↓uSet, ↓uSetR, ↓uIf, ↓wVar, ↓wVarV, ↓wC, ↓w1, ↓w2, ↓wT, asB, ↓wChain, ↓wNil, ↓wCons, ↓wAnd, ↓wOr, ↓wNot, ↓wAndV, ↓wOrV, ↓wNotV, ↓wIf, ↓wCallP, ↓wCallV, ↓wCa, ↓wTup, ↓wLst, ↓oNon, ↓oSom, ↓wSlice, ↓wRev, ↓vP, ↓vSh, ↓vFit, ↓vaNil, ↓vaCons, ↓vLst, ↓vTup, ↓vTup0, ↓vList, ↓vRep, ↓vSlice, ↓cSl, ↓vCallN, ↓v1, ↓vCa, ↓vIx, ↓tP, ↓vAnd, ↓vOr, ↓vNot, ↓vIf, ↓vT, ↓v2, ↓vLc, ↓gI2, ↓gI2c, ↓gLen, ↓gII, ↓gI, ↓gInt1, ↓gRep, ↓gKids, ↓gIn, ↓iLst, ↓TL.iTup, ↓TL.iRng1, ↓TL.iRng2, ↓iEn, ↓iZp, ↓hName, ↓hCons, ↓hNil, ↓hTup, ↓wSl, ↓wIsi, ↓wYes, rho0, iniE, entOf, allSh, List.replicate, List.length_cons, List.length_nil, Nat.reduceAdd, Nat.reduceSub, Nat.reduceLT, Nat.reduceLeDiff, List.cons_append, List.nil_append, List.getElem?_cons_zero, List.getElem?_cons_succ, Option.bind_some, Ent.tr, Ent.own, Ent.put, setE, killA, noAl_ow, noAl_io1, noAl_no, noAl_ro, noAl_al', killJ_cons, killJ_nil0, noRo_ow, noRo_io, noRo_no, noRo_al, mem1, notIn, noRA_ow, noRA_io, noRA_no, noRA_al, Plc, demE, List.foldl_cons, List.foldl_nil, List.map_cons, List.map_nil, List.set_cons_zero, List.set_cons_succ, endsOf, ↓outsOf, Option.map_some, plSet, TL.putAt, T.put, true_and, and_true, lst_set, lst_snoc, lm_set, lm_snoc, shOnly, shE_ow0, shE_ow1, shE_io, shE_no, Option.isSome_some, reduceIte, if_true, if_false, Bool.false_eq_true, Nat.reduceEqDiff]
  refine ⟨rfl, fun ρ => ∃ a c s, ρ = [Ent.io 1 (Li [a, b, c]), Ent.ow 0 (.int d1), Ent.ow 0 (.int s), Ent.no, Ent.no, Ent.no, Ent.no, Ent.no, Ent.no] ∧ 0 ≤ s ∧ s ≤ 400, ?_, fun ρ hI => ?_⟩
  · simp -dsimp only [↓uSeq, ↓uNext, ↓uFor, ↓uSt, ↓uStV, ↓uAu, ↓uAp, ↓uApMv, ↓uAuN, ↓uAlias, ↓uDem, ↓uBrk, ↓uCnt, ↓uNev, ↓uRet, ↓uRetN, ↓uExp, ↓uExpP, ↓uRaise1, ↓wCallX, ↓uExpX, ↓uRetX, ↓uSetX, ↓uTryE, ↓gLtT, ↓iRngD, ↓vSortP, ↓vCat, ↓vCatV, ↓gCat, ↓uSet, ↓uSetR, ↓uIf, ↓wVar, ↓wVarV, ↓wC, ↓w1, ↓w2, ↓wT, asB, ↓wChain, ↓wNil, ↓wCons, ↓wAnd, ↓wOr, ↓wNot, ↓wAndV, ↓wOrV, ↓wNotV, ↓wIf, ↓wCallP, ↓wCallV, ↓wCa, ↓wTup, ↓wLst, ↓oNon, ↓oSom, ↓wSlice, ↓wRev, ↓vP, ↓vSh, ↓vFit, ↓vaNil, ↓vaCons, ↓vLst, ↓vTup, ↓vTup0, ↓vList, ↓vRep, ↓vSlice, ↓cSl, ↓vCallN, ↓v1, ↓vCa, ↓vIx, ↓tP, ↓vAnd, ↓vOr, ↓vNot, ↓vIf, ↓vT, ↓v2, ↓vLc, ↓gI2, ↓gI2c, ↓gLen, ↓gII, ↓gI, ↓gInt1, ↓gRep, ↓gKids, ↓gIn, ↓iLst, ↓TL.iTup, ↓TL.iRng1, ↓TL.iRng2, ↓iEn, ↓iZp, ↓hName, ↓hCons, ↓hNil, ↓hTup, ↓wSl, ↓wIsi, ↓wYes, rho0, iniE, entOf, allSh, List.replicate, List.length_cons, List.length_nil, Nat.reduceAdd, Nat.reduceSub, Nat.reduceLT, Nat.reduceLeDiff, List.cons_append, List.nil_append, List.getElem?_cons_zero, List.getElem?_cons_succ, Option.bind_some, Ent.tr, Ent.own, Ent.put, setE, killA, noAl_ow, noAl_io1, noAl_no, noAl_ro, noAl_al', killJ_cons, killJ_nil0, noRo_ow, noRo_io, noRo_no, noRo_al, mem1, notIn, noRA_ow, noRA_io, noRA_no, noRA_al, Plc, demE, List.foldl_cons, List.foldl_nil, List.map_cons, List.map_nil, List.set_cons_zero, List.set_cons_succ, endsOf, ↓outsOf, Option.map_some, plSet, TL.putAt, T.put, true_and, and_true, lst_set, lst_snoc, lm_set, lm_snoc, shOnly, shE_ow0, shE_ow1, shE_io, shE_no, Option.isSome_some, reduceIte, if_true, if_false, Bool.false_eq_true, Nat.reduceEqDiff]
    refine ifS (fun _ => ?_) fun _ => ⟨_, _, _, rfl, by omega, by omega⟩
    refine ⟨fit0, callPick_io (by decide) (by decide) fun v hv a3 c3 => ?_⟩
    obtain ⟨x, hx, rfl⟩ := pk (xs := [0, 24, 40, 400]) hv
    simp -dsimp only [↓uSeq, ↓uNext, ↓uFor, ↓uSt, ↓uStV, ↓uAu, ↓uAp, ↓uApMv, ↓uAuN, ↓uAlias, ↓uDem, ↓uBrk, ↓uCnt, ↓uNev, ↓uRet, ↓uRetN, ↓uExp, ↓uExpP, ↓uRaise1, ↓wCallX, ↓uExpX, ↓uRetX, ↓uSetX, ↓uTryE, ↓gLtT, ↓iRngD, ↓vSortP, ↓vCat, ↓vCatV, ↓gCat, ↓uSet, ↓uSetR, ↓uIf, ↓wVar, ↓wVarV, ↓wC, ↓w1, ↓w2, ↓wT, asB, ↓wChain, ↓wNil, ↓wCons, ↓wAnd, ↓wOr, ↓wNot, ↓wAndV, ↓wOrV, ↓wNotV, ↓wIf, ↓wCallP, ↓wCallV, ↓wCa, ↓wTup, ↓wLst, ↓oNon, ↓oSom, ↓wSlice, ↓wRev, ↓vP, ↓vSh, ↓vFit, ↓vaNil, ↓vaCons, ↓vLst, ↓vTup, ↓vTup0, ↓vList, ↓vRep, ↓vSlice, ↓cSl, ↓vCallN, ↓v1, ↓vCa, ↓vIx, ↓tP, ↓vAnd, ↓vOr, ↓vNot, ↓vIf, ↓vT, ↓v2, ↓vLc, ↓gI2, ↓gI2c, ↓gLen, ↓gII, ↓gI, ↓gInt1, ↓gRep, ↓gKids, ↓gIn, ↓iLst, ↓TL.iTup, ↓TL.iRng1, ↓TL.iRng2, ↓iEn, ↓iZp, ↓hName, ↓hCons, ↓hNil, ↓hTup, ↓wSl, ↓wIsi, ↓wYes, rho0, iniE, entOf, allSh, List.replicate, List.length_cons, List.length_nil, Nat.reduceAdd, Nat.reduceSub, Nat.reduceLT, Nat.reduceLeDiff, List.cons_append, List.nil_append, List.getElem?_cons_zero, List.getElem?_cons_succ, Option.bind_some, Ent.tr, Ent.own, Ent.put, setE, killA, noAl_ow, noAl_io1, noAl_no, noAl_ro, noAl_al', killJ_cons, killJ_nil0, noRo_ow, noRo_io, noRo_no, noRo_al, mem1, notIn, noRA_ow, noRA_io, noRA_no, noRA_al, Plc, demE, List.foldl_cons, List.foldl_nil, List.map_cons, List.map_nil, List.set_cons_zero, List.set_cons_succ, endsOf, ↓outsOf, Option.map_some, plSet, TL.putAt, T.put, true_and, and_true, lst_set, lst_snoc, lm_set, lm_snoc, shOnly, shE_ow0, shE_ow1, shE_io, shE_no, Option.isSome_some, reduceIte, if_true, if_false, Bool.false_eq_true, Nat.reduceEqDiff]
    refine ⟨_, _, _, rfl, ?_⟩
    simp at hx
    omega
  obtain ⟨a3, c3, s, rfl, s0, s1⟩ := hI
  obtain ⟨n, rfl⟩ := Int.eq_ofNat_of_zero_le s0
  simp -dsimp only [↓uSeq, ↓uNext, ↓uFor, ↓uSt, ↓uStV, ↓uAu, ↓uAp, ↓uApMv, ↓uAuN, ↓uAlias, ↓uDem, ↓uBrk, ↓uCnt, ↓uNev, ↓uRet, ↓uRetN, ↓uExp, ↓uExpP, ↓uRaise1, ↓wCallX, ↓uExpX, ↓uRetX, ↓uSetX, ↓uTryE, ↓gLtT, ↓iRngD, ↓vSortP, ↓vCat, ↓vCatV, ↓gCat, ↓uSet, ↓uSetR, ↓uIf, ↓wVar, ↓wVarV, ↓wC, ↓w1, ↓w2, ↓wT, asB, ↓wChain, ↓wNil, ↓wCons, ↓wAnd, ↓wOr, ↓wNot, ↓wAndV, ↓wOrV, ↓wNotV, ↓wIf, ↓wCallP, ↓wCallV, ↓wCa, ↓wTup, ↓wLst, ↓oNon, ↓oSom, ↓wSlice, ↓wRev, ↓vP, ↓vSh, ↓vFit, ↓vaNil, ↓vaCons, ↓vLst, ↓vTup, ↓vTup0, ↓vList, ↓vRep, ↓vSlice, ↓cSl, ↓vCallN, ↓v1, ↓vCa, ↓vIx, ↓tP, ↓vAnd, ↓vOr, ↓vNot, ↓vIf, ↓vT, ↓v2, ↓vLc, ↓gI2, ↓gI2c, ↓gLen, ↓gII, ↓gI, ↓gInt1, ↓gRep, ↓gKids, ↓gIn, ↓iLst, ↓TL.iTup, ↓TL.iRng1, ↓TL.iRng2, ↓iEn, ↓iZp, ↓hName, ↓hCons, ↓hNil, ↓hTup, ↓wSl, ↓wIsi, ↓wYes, rho0, iniE, entOf, allSh, List.replicate, List.length_cons, List.length_nil, Nat.reduceAdd, Nat.reduceSub, Nat.reduceLT, Nat.reduceLeDiff, List.cons_append, List.nil_append, List.getElem?_cons_zero, List.getElem?_cons_succ, Option.bind_some, Ent.tr, Ent.own, Ent.put, setE, killA, noAl_ow, noAl_io1, noAl_no, noAl_ro, noAl_al', killJ_cons, killJ_nil0, noRo_ow, noRo_io, noRo_no, noRo_al, mem1, notIn, noRA_ow, noRA_io, noRA_no, noRA_al, Plc, demE, List.foldl_cons, List.foldl_nil, List.map_cons, List.map_nil, List.set_cons_zero, List.set_cons_succ, endsOf, ↓outsOf, Option.map_some, plSet, TL.putAt, T.put, true_and, and_true, lst_set, lst_snoc, lm_set, lm_snoc, shOnly, shE_ow0, shE_ow1, shE_io, shE_no, Option.isSome_some, reduceIte, if_true, if_false, Bool.false_eq_true, Nat.reduceEqDiff]
  (repeat (first | refine ⟨rfl, ?_⟩ | refine ⟨fit0, ?_⟩))
  refine callDraw_io (by decide) (by decide) fun d4 a4 c4 l4 u4 => ?_
  simp -dsimp only [↓uSeq, ↓uNext, ↓uFor, ↓uSt, ↓uStV, ↓uAu, ↓uAp, ↓uApMv, ↓uAuN, ↓uAlias, ↓uDem, ↓uBrk, ↓uCnt, ↓uNev, ↓uRet, ↓uRetN, ↓uExp, ↓uExpP, ↓uRaise1, ↓wCallX, ↓uExpX, ↓uRetX, ↓uSetX, ↓uTryE, ↓gLtT, ↓iRngD, ↓vSortP, ↓vCat, ↓vCatV, ↓gCat, ↓uSet, ↓uSetR, ↓uIf, ↓wVar, ↓wVarV, ↓wC, ↓w1, ↓w2, ↓wT, asB, ↓wChain, ↓wNil, ↓wCons, ↓wAnd, ↓wOr, ↓wNot, ↓wAndV, ↓wOrV, ↓wNotV, ↓wIf, ↓wCallP, ↓wCallV, ↓wCa, ↓wTup, ↓wLst, ↓oNon, ↓oSom, ↓wSlice, ↓wRev, ↓vP, ↓vSh, ↓vFit, ↓vaNil, ↓vaCons, ↓vLst, ↓vTup, ↓vTup0, ↓vList, ↓vRep, ↓vSlice, ↓cSl, ↓vCallN, ↓v1, ↓vCa, ↓vIx, ↓tP, ↓vAnd, ↓vOr, ↓vNot, ↓vIf, ↓vT, ↓v2, ↓vLc, ↓gI2, ↓gI2c, ↓gLen, ↓gII, ↓gI, ↓gInt1, ↓gRep, ↓gKids, ↓gIn, ↓iLst, ↓TL.iTup, ↓TL.iRng1, ↓TL.iRng2, ↓iEn, ↓iZp, ↓hName, ↓hCons, ↓hNil, ↓hTup, ↓wSl, ↓wIsi, ↓wYes, rho0, iniE, entOf, allSh, List.replicate, List.length_cons, List.length_nil, Nat.reduceAdd, Nat.reduceSub, Nat.reduceLT, Nat.reduceLeDiff, List.cons_append, List.nil_append, List.getElem?_cons_zero, List.getElem?_cons_succ, Option.bind_some, Ent.tr, Ent.own, Ent.put, setE, killA, noAl_ow, noAl_io1, noAl_no, noAl_ro, noAl_al', killJ_cons, killJ_nil0, noRo_ow, noRo_io, noRo_no, noRo_al, mem1, notIn, noRA_ow, noRA_io, noRA_no, noRA_al, Plc, demE, List.foldl_cons, List.foldl_nil, List.map_cons, List.map_nil, List.set_cons_zero, List.set_cons_succ, endsOf, ↓outsOf, Option.map_some, plSet, TL.putAt, T.put, true_and, and_true, lst_set, lst_snoc, lm_set, lm_snoc, shOnly, shE_ow0, shE_ow1, shE_io, shE_no, Option.isSome_some, reduceIte, if_true, if_false, Bool.false_eq_true, Nat.reduceEqDiff]
  (repeat (first | refine ⟨rfl, ?_⟩ | refine ⟨fit0, ?_⟩))
  refine callDraw_io (by decide) (by decide) fun d5 a5 c5 l5 u5 => ?_
  simp -dsimp only [↓uSeq, ↓uNext, ↓uFor, ↓uSt, ↓uStV, ↓uAu, ↓uAp, ↓uApMv, ↓uAuN, ↓uAlias, ↓uDem, ↓uBrk, ↓uCnt, ↓uNev, ↓uRet, ↓uRetN, ↓uExp, ↓uExpP, ↓uRaise1, ↓wCallX, ↓uExpX, ↓uRetX, ↓uSetX, ↓uTryE, ↓gLtT, ↓iRngD, ↓vSortP, ↓vCat, ↓vCatV, ↓gCat, ↓uSet, ↓uSetR, ↓uIf, ↓wVar, ↓wVarV, ↓wC, ↓w1, ↓w2, ↓wT, asB, ↓wChain, ↓wNil, ↓wCons, ↓wAnd, ↓wOr, ↓wNot, ↓wAndV, ↓wOrV, ↓wNotV, ↓wIf, ↓wCallP, ↓wCallV, ↓wCa, ↓wTup, ↓wLst, ↓oNon, ↓oSom, ↓wSlice, ↓wRev, ↓vP, ↓vSh, ↓vFit, ↓vaNil, ↓vaCons, ↓vLst, ↓vTup, ↓vTup0, ↓vList, ↓vRep, ↓vSlice, ↓cSl, ↓vCallN, ↓v1, ↓vCa, ↓vIx, ↓tP, ↓vAnd, ↓vOr, ↓vNot, ↓vIf, ↓vT, ↓v2, ↓vLc, ↓gI2, ↓gI2c, ↓gLen, ↓gII, ↓gI, ↓gInt1, ↓gRep, ↓gKids, ↓gIn, ↓iLst, ↓TL.iTup, ↓TL.iRng1, ↓TL.iRng2, ↓iEn, ↓iZp, ↓hName, ↓hCons, ↓hNil, ↓hTup, ↓wSl, ↓wIsi, ↓wYes, rho0, iniE, entOf, allSh, List.replicate, List.length_cons, List.length_nil, Nat.reduceAdd, Nat.reduceSub, Nat.reduceLT, Nat.reduceLeDiff, List.cons_append, List.nil_append, List.getElem?_cons_zero, List.getElem?_cons_succ, Option.bind_some, Ent.tr, Ent.own, Ent.put, setE, killA, noAl_ow, noAl_io1, noAl_no, noAl_ro, noAl_al', killJ_cons, killJ_nil0, noRo_ow, noRo_io, noRo_no, noRo_al, mem1, notIn, noRA_ow, noRA_io, noRA_no, noRA_al, Plc, demE, List.foldl_cons, List.foldl_nil, List.map_cons, List.map_nil, List.set_cons_zero, List.set_cons_succ, endsOf, ↓outsOf, Option.map_some, plSet, TL.putAt, T.put, true_and, and_true, lst_set, lst_snoc, lm_set, lm_snoc, shOnly, shE_ow0, shE_ow1, shE_io, shE_no, Option.isSome_some, reduceIte, if_true, if_false, Bool.false_eq_true, Nat.reduceEqDiff]
  (repeat (first | refine ⟨rfl, ?_⟩ | refine ⟨fit0, ?_⟩))
  refine callPick_io (by decide) (by decide) fun v hv a6 c6 => ?_
  obtain ⟨wd, hwd, rfl⟩ := pk (xs := [5, 13, 13, 18]) hv
  have w0 : 0 < wd ∧ wd < 100 := by simp at hwd; omega
  simp -dsimp only [↓uSeq, ↓uNext, ↓uFor, ↓uSt, ↓uStV, ↓uAu, ↓uAp, ↓uApMv, ↓uAuN, ↓uAlias, ↓uDem, ↓uBrk, ↓uCnt, ↓uNev, ↓uRet, ↓uRetN, ↓uExp, ↓uExpP, ↓uRaise1, ↓wCallX, ↓uExpX, ↓uRetX, ↓uSetX, ↓uTryE, ↓gLtT, ↓iRngD, ↓vSortP, ↓vCat, ↓vCatV, ↓gCat, ↓uSet, ↓uSetR, ↓uIf, ↓wVar, ↓wVarV, ↓wC, ↓w1, ↓w2, ↓wT, asB, ↓wChain, ↓wNil, ↓wCons, ↓wAnd, ↓wOr, ↓wNot, ↓wAndV, ↓wOrV, ↓wNotV, ↓wIf, ↓wCallP, ↓wCallV, ↓wCa, ↓wTup, ↓wLst, ↓oNon, ↓oSom, ↓wSlice, ↓wRev, ↓vP, ↓vSh, ↓vFit, ↓vaNil, ↓vaCons, ↓vLst, ↓vTup, ↓vTup0, ↓vList, ↓vRep, ↓vSlice, ↓cSl, ↓vCallN, ↓v1, ↓vCa, ↓vIx, ↓tP, ↓vAnd, ↓vOr, ↓vNot, ↓vIf, ↓vT, ↓v2, ↓vLc, ↓gI2, ↓gI2c, ↓gLen, ↓gII, ↓gI, ↓gInt1, ↓gRep, ↓gKids, ↓gIn, ↓iLst, ↓TL.iTup, ↓TL.iRng1, ↓TL.iRng2, ↓iEn, ↓iZp, ↓hName, ↓hCons, ↓hNil, ↓hTup, ↓wSl, ↓wIsi, ↓wYes, rho0, iniE, entOf, allSh, List.replicate, List.length_cons, List.length_nil, Nat.reduceAdd, Nat.reduceSub, Nat.reduceLT, Nat.reduceLeDiff, List.cons_append, List.nil_append, List.getElem?_cons_zero, List.getElem?_cons_succ, Option.bind_some, Ent.tr, Ent.own, Ent.put, setE, killA, noAl_ow, noAl_io1, noAl_no, noAl_ro, noAl_al', killJ_cons, killJ_nil0, noRo_ow, noRo_io, noRo_no, noRo_al, mem1, notIn, noRA_ow, noRA_io, noRA_no, noRA_al, Plc, demE, List.foldl_cons, List.foldl_nil, List.map_cons, List.map_nil, List.set_cons_zero, List.set_cons_succ, endsOf, ↓outsOf, Option.map_some, plSet, TL.putAt, T.put, true_and, and_true, lst_set, lst_snoc, lm_set, lm_snoc, shOnly, shE_ow0, shE_ow1, shE_io, shE_no, Option.isSome_some, reduceIte, if_true, if_false, Bool.false_eq_true, Nat.reduceEqDiff]
  rw [Int.toNat_natCast]
  refine ⟨by omega, by omega, fun i ρ => ∃ (a c : Int) (xs : List Int) (x7 : Ent), ρ = [Ent.io 1 (Li [a, b, c]), Ent.ow 0 (.int d1), Ent.ow 0 (.int n), Ent.ow 0 (.int (0 - d4)), Ent.ow 0 (.int d5), Ent.ow 0 (.int wd), Ent.ow 1 (Li xs), x7, Ent.no] ∧ xs.length = i, ⟨_, _, [], _, rfl, rfl⟩, fun i t ρ hi hI => ?_, fun ρ hI => ?_⟩
  · obtain ⟨a7, c7, xs, x7, rfl, hxl⟩ := hI
    obtain ⟨hil, rfl⟩ := rgT_get.mp hi
    simp -dsimp only [↓uSeq, ↓uNext, ↓uFor, ↓uSt, ↓uStV, ↓uAu, ↓uAp, ↓uApMv, ↓uAuN, ↓uAlias, ↓uDem, ↓uBrk, ↓uCnt, ↓uNev, ↓uRet, ↓uRetN, ↓uExp, ↓uExpP, ↓uRaise1, ↓wCallX, ↓uExpX, ↓uRetX, ↓uSetX, ↓uTryE, ↓gLtT, ↓iRngD, ↓vSortP, ↓vCat, ↓vCatV, ↓gCat, ↓uSet, ↓uSetR, ↓uIf, ↓wVar, ↓wVarV, ↓wC, ↓w1, ↓w2, ↓wT, asB, ↓wChain, ↓wNil, ↓wCons, ↓wAnd, ↓wOr, ↓wNot, ↓wAndV, ↓wOrV, ↓wNotV, ↓wIf, ↓wCallP, ↓wCallV, ↓wCa, ↓wTup, ↓wLst, ↓oNon, ↓oSom, ↓wSlice, ↓wRev, ↓vP, ↓vSh, ↓vFit, ↓vaNil, ↓vaCons, ↓vLst, ↓vTup, ↓vTup0, ↓vList, ↓vRep, ↓vSlice, ↓cSl, ↓vCallN, ↓v1, ↓vCa, ↓vIx, ↓tP, ↓vAnd, ↓vOr, ↓vNot, ↓vIf, ↓vT, ↓v2, ↓vLc, ↓gI2, ↓gI2c, ↓gLen, ↓gII, ↓gI, ↓gInt1, ↓gRep, ↓gKids, ↓gIn, ↓iLst, ↓TL.iTup, ↓TL.iRng1, ↓TL.iRng2, ↓iEn, ↓iZp, ↓hName, ↓hCons, ↓hNil, ↓hTup, ↓wSl, ↓wIsi, ↓wYes, rho0, iniE, entOf, allSh, List.replicate, List.length_cons, List.length_nil, Nat.reduceAdd, Nat.reduceSub, Nat.reduceLT, Nat.reduceLeDiff, List.cons_append, List.nil_append, List.getElem?_cons_zero, List.getElem?_cons_succ, Option.bind_some, Ent.tr, Ent.own, Ent.put, setE, killA, noAl_ow, noAl_io1, noAl_no, noAl_ro, noAl_al', killJ_cons, killJ_nil0, noRo_ow, noRo_io, noRo_no, noRo_al, mem1, notIn, noRA_ow, noRA_io, noRA_no, noRA_al, Plc, demE, List.foldl_cons, List.foldl_nil, List.map_cons, List.map_nil, List.set_cons_zero, List.set_cons_succ, endsOf, ↓outsOf, Option.map_some, plSet, TL.putAt, T.put, true_and, and_true, lst_set, lst_snoc, lm_set, lm_snoc, shOnly, shE_ow0, shE_ow1, shE_io, shE_no, Option.isSome_some, reduceIte, if_true, if_false, Bool.false_eq_true, Nat.reduceEqDiff]
    (repeat (first | refine ⟨rfl, ?_⟩ | refine ⟨fit0, ?_⟩))
    refine ⟨cm1 (by omega) (by omega), rfl, rfl, fit0, callDraw_io (by omega) (by omega) fun d8 a8 c8 l8 u8 => ?_⟩
    simp -dsimp only [↓uSeq, ↓uNext, ↓uFor, ↓uSt, ↓uStV, ↓uAu, ↓uAp, ↓uApMv, ↓uAuN, ↓uAlias, ↓uDem, ↓uBrk, ↓uCnt, ↓uNev, ↓uRet, ↓uRetN, ↓uExp, ↓uExpP, ↓uRaise1, ↓wCallX, ↓uExpX, ↓uRetX, ↓uSetX, ↓uTryE, ↓gLtT, ↓iRngD, ↓vSortP, ↓vCat, ↓vCatV, ↓gCat, ↓uSet, ↓uSetR, ↓uIf, ↓wVar, ↓wVarV, ↓wC, ↓w1, ↓w2, ↓wT, asB, ↓wChain, ↓wNil, ↓wCons, ↓wAnd, ↓wOr, ↓wNot, ↓wAndV, ↓wOrV, ↓wNotV, ↓wIf, ↓wCallP, ↓wCallV, ↓wCa, ↓wTup, ↓wLst, ↓oNon, ↓oSom, ↓wSlice, ↓wRev, ↓vP, ↓vSh, ↓vFit, ↓vaNil, ↓vaCons, ↓vLst, ↓vTup, ↓vTup0, ↓vList, ↓vRep, ↓vSlice, ↓cSl, ↓vCallN, ↓v1, ↓vCa, ↓vIx, ↓tP, ↓vAnd, ↓vOr, ↓vNot, ↓vIf, ↓vT, ↓v2, ↓vLc, ↓gI2, ↓gI2c, ↓gLen, ↓gII, ↓gI, ↓gInt1, ↓gRep, ↓gKids, ↓gIn, ↓iLst, ↓TL.iTup, ↓TL.iRng1, ↓TL.iRng2, ↓iEn, ↓iZp, ↓hName, ↓hCons, ↓hNil, ↓hTup, ↓wSl, ↓wIsi, ↓wYes, rho0, iniE, entOf, allSh, List.replicate, List.length_cons, List.length_nil, Nat.reduceAdd, Nat.reduceSub, Nat.reduceLT, Nat.reduceLeDiff, List.cons_append, List.nil_append, List.getElem?_cons_zero, List.getElem?_cons_succ, Option.bind_some, Ent.tr, Ent.own, Ent.put, setE, killA, noAl_ow, noAl_io1, noAl_no, noAl_ro, noAl_al', killJ_cons, killJ_nil0, noRo_ow, noRo_io, noRo_no, noRo_al, mem1, notIn, noRA_ow, noRA_io, noRA_no, noRA_al, Plc, demE, List.foldl_cons, List.foldl_nil, List.map_cons, List.map_nil, List.set_cons_zero, List.set_cons_succ, endsOf, ↓outsOf, Option.map_some, plSet, TL.putAt, T.put, true_and, and_true, lst_set, lst_snoc, lm_set, lm_snoc, shOnly, shE_ow0, shE_ow1, shE_io, shE_no, Option.isSome_some, reduceIte, if_true, if_false, Bool.false_eq_true, Nat.reduceEqDiff]
    refine ⟨rfl, fit0, by rw [List.length_map]; omega, ?_⟩
    exact ⟨_, _, _, _, rfl, by rw [List.length_append, hxl]; rfl⟩
  obtain ⟨a7, c7, xs, x7, rfl, hxl⟩ := hI
  rw [rgT_len] at hxl
  refine ⟨fun ρ => ∃ (a c : Int) (xs : List Int) (x1 x2 x3 x4 x5 x7 x8 : Ent), ρ = [Ent.io 1 (Li [a, b, c]), x1, x2, x3, x4, x5, Ent.ow 1 (Li xs), x7, x8] ∧ xs.length = n, ?_, fun ρ hI => ?_⟩
  · simp -dsimp only [↓uSeq, ↓uNext, ↓uFor, ↓uSt, ↓uStV, ↓uAu, ↓uAp, ↓uApMv, ↓uAuN, ↓uAlias, ↓uDem, ↓uBrk, ↓uCnt, ↓uNev, ↓uRet, ↓uRetN, ↓uExp, ↓uExpP, ↓uRaise1, ↓wCallX, ↓uExpX, ↓uRetX, ↓uSetX, ↓uTryE, ↓gLtT, ↓iRngD, ↓vSortP, ↓vCat, ↓vCatV, ↓gCat, ↓uSet, ↓uSetR, ↓uIf, ↓wVar, ↓wVarV, ↓wC, ↓w1, ↓w2, ↓wT, asB, ↓wChain, ↓wNil, ↓wCons, ↓wAnd, ↓wOr, ↓wNot, ↓wAndV, ↓wOrV, ↓wNotV, ↓wIf, ↓wCallP, ↓wCallV, ↓wCa, ↓wTup, ↓wLst, ↓oNon, ↓oSom, ↓wSlice, ↓wRev, ↓vP, ↓vSh, ↓vFit, ↓vaNil, ↓vaCons, ↓vLst, ↓vTup, ↓vTup0, ↓vList, ↓vRep, ↓vSlice, ↓cSl, ↓vCallN, ↓v1, ↓vCa, ↓vIx, ↓tP, ↓vAnd, ↓vOr, ↓vNot, ↓vIf, ↓vT, ↓v2, ↓vLc, ↓gI2, ↓gI2c, ↓gLen, ↓gII, ↓gI, ↓gInt1, ↓gRep, ↓gKids, ↓gIn, ↓iLst, ↓TL.iTup, ↓TL.iRng1, ↓TL.iRng2, ↓iEn, ↓iZp, ↓hName, ↓hCons, ↓hNil, ↓hTup, ↓wSl, ↓wIsi, ↓wYes, rho0, iniE, entOf, allSh, List.replicate, List.length_cons, List.length_nil, Nat.reduceAdd, Nat.reduceSub, Nat.reduceLT, Nat.reduceLeDiff, List.cons_append, List.nil_append, List.getElem?_cons_zero, List.getElem?_cons_succ, Option.bind_some, Ent.tr, Ent.own, Ent.put, setE, killA, noAl_ow, noAl_io1, noAl_no, noAl_ro, noAl_al', killJ_cons, killJ_nil0, noRo_ow, noRo_io, noRo_no, noRo_al, mem1, notIn, noRA_ow, noRA_io, noRA_no, noRA_al, Plc, demE, List.foldl_cons, List.foldl_nil, List.map_cons, List.map_nil, List.set_cons_zero, List.set_cons_succ, endsOf, ↓outsOf, Option.map_some, plSet, TL.putAt, T.put, true_and, and_true, lst_set, lst_snoc, lm_set, lm_snoc, shOnly, shE_ow0, shE_ow1, shE_io, shE_no, Option.isSome_some, reduceIte, if_true, if_false, Bool.false_eq_true, Nat.reduceEqDiff]
    refine ifS (fun _ => ?_) fun _ => ifS (fun _ => ?_) fun _ => ⟨_, _, _, _, _, _, _, _, _, _, rfl, hxl⟩
    all_goals
      refine ⟨⟨by decide, by decide, by decide⟩, ⟨by decide, by decide, by decide⟩, fit0, callPick_io (by decide) (by decide) fun v hv a9 c9 => ?_⟩
      obtain ⟨tp, htp, rfl⟩ := pk (xs := [300, 2001, 40001, 10 ^ 6, 10 ^ 15 + 1]) hv
      have t0 : 0 < tp ∧ tp < 9223372036854775808 := by simp at htp; omega
      simp -dsimp only [↓uSeq, ↓uNext, ↓uFor, ↓uSt, ↓uStV, ↓uAu, ↓uAp, ↓uApMv, ↓uAuN, ↓uAlias, ↓uDem, ↓uBrk, ↓uCnt, ↓uNev, ↓uRet, ↓uRetN, ↓uExp, ↓uExpP, ↓uRaise1, ↓wCallX, ↓uExpX, ↓uRetX, ↓uSetX, ↓uTryE, ↓gLtT, ↓iRngD, ↓vSortP, ↓vCat, ↓vCatV, ↓gCat, ↓uSet, ↓uSetR, ↓uIf, ↓wVar, ↓wVarV, ↓wC, ↓w1, ↓w2, ↓wT, asB, ↓wChain, ↓wNil, ↓wCons, ↓wAnd, ↓wOr, ↓wNot, ↓wAndV, ↓wOrV, ↓wNotV, ↓wIf, ↓wCallP, ↓wCallV, ↓wCa, ↓wTup, ↓wLst, ↓oNon, ↓oSom, ↓wSlice, ↓wRev, ↓vP, ↓vSh, ↓vFit, ↓vaNil, ↓vaCons, ↓vLst, ↓vTup, ↓vTup0, ↓vList, ↓vRep, ↓vSlice, ↓cSl, ↓vCallN, ↓v1, ↓vCa, ↓vIx, ↓tP, ↓vAnd, ↓vOr, ↓vNot, ↓vIf, ↓vT, ↓v2, ↓vLc, ↓gI2, ↓gI2c, ↓gLen, ↓gII, ↓gI, ↓gInt1, ↓gRep, ↓gKids, ↓gIn, ↓iLst, ↓TL.iTup, ↓TL.iRng1, ↓TL.iRng2, ↓iEn, ↓iZp, ↓hName, ↓hCons, ↓hNil, ↓hTup, ↓wSl, ↓wIsi, ↓wYes, rho0, iniE, entOf, allSh, List.replicate, List.length_cons, List.length_nil, Nat.reduceAdd, Nat.reduceSub, Nat.reduceLT, Nat.reduceLeDiff, List.cons_append, List.nil_append, List.getElem?_cons_zero, List.getElem?_cons_succ, Option.bind_some, Ent.tr, Ent.own, Ent.put, setE, killA, noAl_ow, noAl_io1, noAl_no, noAl_ro, noAl_al', killJ_cons, killJ_nil0, noRo_ow, noRo_io, noRo_no, noRo_al, mem1, notIn, noRA_ow, noRA_io, noRA_no, noRA_al, Plc, demE, List.foldl_cons, List.foldl_nil, List.map_cons, List.map_nil, List.set_cons_zero, List.set_cons_succ, endsOf, ↓outsOf, Option.map_some, plSet, TL.putAt, T.put, true_and, and_true, lst_set, lst_snoc, lm_set, lm_snoc, shOnly, shE_ow0, shE_ow1, shE_io, shE_no, Option.isSome_some, reduceIte, if_true, if_false, Bool.false_eq_true, Nat.reduceEqDiff]
      rw [Int.toNat_natCast]
      refine ⟨by omega, by omega, fun i ρ => ∃ (a c : Int) (xs : List Int) (x1 x2 x3 x4 x5 x7 : Ent), ρ = [Ent.io 1 (Li [a, b, c]), x1, x2, x3, x4, x5, Ent.ow 1 (Li xs), x7, Ent.ow 0 (.int tp)] ∧ xs.length = n, ⟨_, _, _, _, _, _, _, _, _, rfl, hxl⟩, fun i t ρ hi hI => ?_, fun ρ hI => ?_⟩
      · obtain ⟨aa, cc, xs, x1, x2, x3, x4, x5, x7, rfl, hxl⟩ := hI
        obtain ⟨hil, rfl⟩ := rgT_get.mp hi
        rw [Int.zero_add]
        refine ⟨(by decide : 7 < 9), fun ρ => ∃ (a c : Int) (xs : List Int) (x1 x2 x3 x4 x5 : Ent), ρ = [Ent.io 1 (Li [a, b, c]), x1, x2, x3, x4, x5, Ent.ow 1 (Li xs), Ent.ow 0 (.int (i : Int)), Ent.ow 0 (.int tp)] ∧ xs.length = n, ?_, fun ρ hI => ?_⟩
        · simp -dsimp only [↓uSeq, ↓uNext, ↓uFor, ↓uSt, ↓uStV, ↓uAu, ↓uAp, ↓uApMv, ↓uAuN, ↓uAlias, ↓uDem, ↓uBrk, ↓uCnt, ↓uNev, ↓uRet, ↓uRetN, ↓uExp, ↓uExpP, ↓uRaise1, ↓wCallX, ↓uExpX, ↓uRetX, ↓uSetX, ↓uTryE, ↓gLtT, ↓iRngD, ↓vSortP, ↓vCat, ↓vCatV, ↓gCat, ↓uSet, ↓uSetR, ↓uIf, ↓wVar, ↓wVarV, ↓wC, ↓w1, ↓w2, ↓wT, asB, ↓wChain, ↓wNil, ↓wCons, ↓wAnd, ↓wOr, ↓wNot, ↓wAndV, ↓wOrV, ↓wNotV, ↓wIf, ↓wCallP, ↓wCallV, ↓wCa, ↓wTup, ↓wLst, ↓oNon, ↓oSom, ↓wSlice, ↓wRev, ↓vP, ↓vSh, ↓vFit, ↓vaNil, ↓vaCons, ↓vLst, ↓vTup, ↓vTup0, ↓vList, ↓vRep, ↓vSlice, ↓cSl, ↓vCallN, ↓v1, ↓vCa, ↓vIx, ↓tP, ↓vAnd, ↓vOr, ↓vNot, ↓vIf, ↓vT, ↓v2, ↓vLc, ↓gI2, ↓gI2c, ↓gLen, ↓gII, ↓gI, ↓gInt1, ↓gRep, ↓gKids, ↓gIn, ↓iLst, ↓TL.iTup, ↓TL.iRng1, ↓TL.iRng2, ↓iEn, ↓iZp, ↓hName, ↓hCons, ↓hNil, ↓hTup, ↓wSl, ↓wIsi, ↓wYes, rho0, iniE, entOf, allSh, List.replicate, List.length_cons, List.length_nil, Nat.reduceAdd, Nat.reduceSub, Nat.reduceLT, Nat.reduceLeDiff, List.cons_append, List.nil_append, List.getElem?_cons_zero, List.getElem?_cons_succ, Option.bind_some, Ent.tr, Ent.own, Ent.put, setE, killA, noAl_ow, noAl_io1, noAl_no, noAl_ro, noAl_al', killJ_cons, killJ_nil0, noRo_ow, noRo_io, noRo_no, noRo_al, mem1, notIn, noRA_ow, noRA_io, noRA_no, noRA_al, Plc, demE, List.foldl_cons, List.foldl_nil, List.map_cons, List.map_nil, List.set_cons_zero, List.set_cons_succ, endsOf, ↓outsOf, Option.map_some, plSet, TL.putAt, T.put, true_and, and_true, lst_set, lst_snoc, lm_set, lm_snoc, shOnly, shE_ow0, shE_ow1, shE_io, shE_no, Option.isSome_some, reduceIte, if_true, if_false, Bool.false_eq_true, Nat.reduceEqDiff]
          (repeat (first | refine ⟨rfl, ?_⟩ | refine ⟨fit0, ?_⟩))
          refine callDraw_io (by decide) (by decide) fun d a c l u => ?_
          simp -dsimp only [↓uSeq, ↓uNext, ↓uFor, ↓uSt, ↓uStV, ↓uAu, ↓uAp, ↓uApMv, ↓uAuN, ↓uAlias, ↓uDem, ↓uBrk, ↓uCnt, ↓uNev, ↓uRet, ↓uRetN, ↓uExp, ↓uExpP, ↓uRaise1, ↓wCallX, ↓uExpX, ↓uRetX, ↓uSetX, ↓uTryE, ↓gLtT, ↓iRngD, ↓vSortP, ↓vCat, ↓vCatV, ↓gCat, ↓uSet, ↓uSetR, ↓uIf, ↓wVar, ↓wVarV, ↓wC, ↓w1, ↓w2, ↓wT, asB, ↓wChain, ↓wNil, ↓wCons, ↓wAnd, ↓wOr, ↓wNot, ↓wAndV, ↓wOrV, ↓wNotV, ↓wIf, ↓wCallP, ↓wCallV, ↓wCa, ↓wTup, ↓wLst, ↓oNon, ↓oSom, ↓wSlice, ↓wRev, ↓vP, ↓vSh, ↓vFit, ↓vaNil, ↓vaCons, ↓vLst, ↓vTup, ↓vTup0, ↓vList, ↓vRep, ↓vSlice, ↓cSl, ↓vCallN, ↓v1, ↓vCa, ↓vIx, ↓tP, ↓vAnd, ↓vOr, ↓vNot, ↓vIf, ↓vT, ↓v2, ↓vLc, ↓gI2, ↓gI2c, ↓gLen, ↓gII, ↓gI, ↓gInt1, ↓gRep, ↓gKids, ↓gIn, ↓iLst, ↓TL.iTup, ↓TL.iRng1, ↓TL.iRng2, ↓iEn, ↓iZp, ↓hName, ↓hCons, ↓hNil, ↓hTup, ↓wSl, ↓wIsi, ↓wYes, rho0, iniE, entOf, allSh, List.replicate, List.length_cons, List.length_nil, Nat.reduceAdd, Nat.reduceSub, Nat.reduceLT, Nat.reduceLeDiff, List.cons_append, List.nil_append, List.getElem?_cons_zero, List.getElem?_cons_succ, Option.bind_some, Ent.tr, Ent.own, Ent.put, setE, killA, noAl_ow, noAl_io1, noAl_no, noAl_ro, noAl_al', killJ_cons, killJ_nil0, noRo_ow, noRo_io, noRo_no, noRo_al, mem1, notIn, noRA_ow, noRA_io, noRA_no, noRA_al, Plc, demE, List.foldl_cons, List.foldl_nil, List.map_cons, List.map_nil, List.set_cons_zero, List.set_cons_succ, endsOf, ↓outsOf, Option.map_some, plSet, TL.putAt, T.put, true_and, and_true, lst_set, lst_snoc, lm_set, lm_snoc, shOnly, shE_ow0, shE_ow1, shE_io, shE_no, Option.isSome_some, reduceIte, if_true, if_false, Bool.false_eq_true, Nat.reduceEqDiff]
          (repeat (first | refine ⟨rfl, ?_⟩ | refine ⟨fit0, ?_⟩))
          refine ifS (fun _ => ?_) fun _ => ⟨_, _, _, _, _, _, _, _, rfl, hxl⟩
          (repeat (first | refine ⟨rfl, ?_⟩ | refine ⟨fit0, ?_⟩))
          refine callDraw_io (by omega) (by omega) fun d2 a2 c2 l2 u2 => ?_
          simp -dsimp only [↓uSeq, ↓uNext, ↓uFor, ↓uSt, ↓uStV, ↓uAu, ↓uAp, ↓uApMv, ↓uAuN, ↓uAlias, ↓uDem, ↓uBrk, ↓uCnt, ↓uNev, ↓uRet, ↓uRetN, ↓uExp, ↓uExpP, ↓uRaise1, ↓wCallX, ↓uExpX, ↓uRetX, ↓uSetX, ↓uTryE, ↓gLtT, ↓iRngD, ↓vSortP, ↓vCat, ↓vCatV, ↓gCat, ↓uSet, ↓uSetR, ↓uIf, ↓wVar, ↓wVarV, ↓wC, ↓w1, ↓w2, ↓wT, asB, ↓wChain, ↓wNil, ↓wCons, ↓wAnd, ↓wOr, ↓wNot, ↓wAndV, ↓wOrV, ↓wNotV, ↓wIf, ↓wCallP, ↓wCallV, ↓wCa, ↓wTup, ↓wLst, ↓oNon, ↓oSom, ↓wSlice, ↓wRev, ↓vP, ↓vSh, ↓vFit, ↓vaNil, ↓vaCons, ↓vLst, ↓vTup, ↓vTup0, ↓vList, ↓vRep, ↓vSlice, ↓cSl, ↓vCallN, ↓v1, ↓vCa, ↓vIx, ↓tP, ↓vAnd, ↓vOr, ↓vNot, ↓vIf, ↓vT, ↓v2, ↓vLc, ↓gI2, ↓gI2c, ↓gLen, ↓gII, ↓gI, ↓gInt1, ↓gRep, ↓gKids, ↓gIn, ↓iLst, ↓TL.iTup, ↓TL.iRng1, ↓TL.iRng2, ↓iEn, ↓iZp, ↓hName, ↓hCons, ↓hNil, ↓hTup, ↓wSl, ↓wIsi, ↓wYes, rho0, iniE, entOf, allSh, List.replicate, List.length_cons, List.length_nil, Nat.reduceAdd, Nat.reduceSub, Nat.reduceLT, Nat.reduceLeDiff, List.cons_append, List.nil_append, List.getElem?_cons_zero, List.getElem?_cons_succ, Option.bind_some, Ent.tr, Ent.own, Ent.put, setE, killA, noAl_ow, noAl_io1, noAl_no, noAl_ro, noAl_al', killJ_cons, killJ_nil0, noRo_ow, noRo_io, noRo_no, noRo_al, mem1, notIn, noRA_ow, noRA_io, noRA_no, noRA_al, Plc, demE, List.foldl_cons, List.foldl_nil, List.map_cons, List.map_nil, List.set_cons_zero, List.set_cons_succ, endsOf, ↓outsOf, Option.map_some, plSet, TL.putAt, T.put, true_and, and_true, lst_set, lst_snoc, lm_set, lm_snoc, shOnly, shE_ow0, shE_ow1, shE_io, shE_no, Option.isSome_some, reduceIte, if_true, if_false, Bool.false_eq_true, Nat.reduceEqDiff]
          rw [ixN_nat (by rw [List.length_map]; omega)]
          refine ⟨fit0, _, _, _, _, _, _, _, _, rfl, by rw [List.length_set]; exact hxl⟩
        · obtain ⟨aa, cc, xs, x1, x2, x3, x4, x5, rfl, hxl⟩ := hI
          simp -dsimp only [↓uSeq, ↓uNext, ↓uFor, ↓uSt, ↓uStV, ↓uAu, ↓uAp, ↓uApMv, ↓uAuN, ↓uAlias, ↓uDem, ↓uBrk, ↓uCnt, ↓uNev, ↓uRet, ↓uRetN, ↓uExp, ↓uExpP, ↓uRaise1, ↓wCallX, ↓uExpX, ↓uRetX, ↓uSetX, ↓uTryE, ↓gLtT, ↓iRngD, ↓vSortP, ↓vCat, ↓vCatV, ↓gCat, ↓uSet, ↓uSetR, ↓uIf, ↓wVar, ↓wVarV, ↓wC, ↓w1, ↓w2, ↓wT, asB, ↓wChain, ↓wNil, ↓wCons, ↓wAnd, ↓wOr, ↓wNot, ↓wAndV, ↓wOrV, ↓wNotV, ↓wIf, ↓wCallP, ↓wCallV, ↓wCa, ↓wTup, ↓wLst, ↓oNon, ↓oSom, ↓wSlice, ↓wRev, ↓vP, ↓vSh, ↓vFit, ↓vaNil, ↓vaCons, ↓vLst, ↓vTup, ↓vTup0, ↓vList, ↓vRep, ↓vSlice, ↓cSl, ↓vCallN, ↓v1, ↓vCa, ↓vIx, ↓tP, ↓vAnd, ↓vOr, ↓vNot, ↓vIf, ↓vT, ↓v2, ↓vLc, ↓gI2, ↓gI2c, ↓gLen, ↓gII, ↓gI, ↓gInt1, ↓gRep, ↓gKids, ↓gIn, ↓iLst, ↓TL.iTup, ↓TL.iRng1, ↓TL.iRng2, ↓iEn, ↓iZp, ↓hName, ↓hCons, ↓hNil, ↓hTup, ↓wSl, ↓wIsi, ↓wYes, rho0, iniE, entOf, allSh, List.replicate, List.length_cons, List.length_nil, Nat.reduceAdd, Nat.reduceSub, Nat.reduceLT, Nat.reduceLeDiff, List.cons_append, List.nil_append, List.getElem?_cons_zero, List.getElem?_cons_succ, Option.bind_some, Ent.tr, Ent.own, Ent.put, setE, killA, noAl_ow, noAl_io1, noAl_no, noAl_ro, noAl_al', killJ_cons, killJ_nil0, noRo_ow, noRo_io, noRo_no, noRo_al, mem1, notIn, noRA_ow, noRA_io, noRA_no, noRA_al, Plc, demE, List.foldl_cons, List.foldl_nil, List.map_cons, List.map_nil, List.set_cons_zero, List.set_cons_succ, endsOf, ↓outsOf, Option.map_some, plSet, TL.putAt, T.put, true_and, and_true, lst_set, lst_snoc, lm_set, lm_snoc, shOnly, shE_ow0, shE_ow1, shE_io, shE_no, Option.isSome_some, reduceIte, if_true, if_false, Bool.false_eq_true, Nat.reduceEqDiff]
          (repeat (first | refine ⟨rfl, ?_⟩ | refine ⟨fit0, ?_⟩))
          refine callDraw_io (by decide) (by decide) fun d a c l u => ?_
          simp -dsimp only [↓uSeq, ↓uNext, ↓uFor, ↓uSt, ↓uStV, ↓uAu, ↓uAp, ↓uApMv, ↓uAuN, ↓uAlias, ↓uDem, ↓uBrk, ↓uCnt, ↓uNev, ↓uRet, ↓uRetN, ↓uExp, ↓uExpP, ↓uRaise1, ↓wCallX, ↓uExpX, ↓uRetX, ↓uSetX, ↓uTryE, ↓gLtT, ↓iRngD, ↓vSortP, ↓vCat, ↓vCatV, ↓gCat, ↓uSet, ↓uSetR, ↓uIf, ↓wVar, ↓wVarV, ↓wC, ↓w1, ↓w2, ↓wT, asB, ↓wChain, ↓wNil, ↓wCons, ↓wAnd, ↓wOr, ↓wNot, ↓wAndV, ↓wOrV, ↓wNotV, ↓wIf, ↓wCallP, ↓wCallV, ↓wCa, ↓wTup, ↓wLst, ↓oNon, ↓oSom, ↓wSlice, ↓wRev, ↓vP, ↓vSh, ↓vFit, ↓vaNil, ↓vaCons, ↓vLst, ↓vTup, ↓vTup0, ↓vList, ↓vRep, ↓vSlice, ↓cSl, ↓vCallN, ↓v1, ↓vCa, ↓vIx, ↓tP, ↓vAnd, ↓vOr, ↓vNot, ↓vIf, ↓vT, ↓v2, ↓vLc, ↓gI2, ↓gI2c, ↓gLen, ↓gII, ↓gI, ↓gInt1, ↓gRep, ↓gKids, ↓gIn, ↓iLst, ↓TL.iTup, ↓TL.iRng1, ↓TL.iRng2, ↓iEn, ↓iZp, ↓hName, ↓hCons, ↓hNil, ↓hTup, ↓wSl, ↓wIsi, ↓wYes, rho0, iniE, entOf, allSh, List.replicate, List.length_cons, List.length_nil, Nat.reduceAdd, Nat.reduceSub, Nat.reduceLT, Nat.reduceLeDiff, List.cons_append, List.nil_append, List.getElem?_cons_zero, List.getElem?_cons_succ, Option.bind_some, Ent.tr, Ent.own, Ent.put, setE, killA, noAl_ow, noAl_io1, noAl_no, noAl_ro, noAl_al', killJ_cons, killJ_nil0, noRo_ow, noRo_io, noRo_no, noRo_al, mem1, notIn, noRA_ow, noRA_io, noRA_no, noRA_al, Plc, demE, List.foldl_cons, List.foldl_nil, List.map_cons, List.map_nil, List.set_cons_zero, List.set_cons_succ, endsOf, ↓outsOf, Option.map_some, plSet, TL.putAt, T.put, true_and, and_true, lst_set, lst_snoc, lm_set, lm_snoc, shOnly, shE_ow0, shE_ow1, shE_io, shE_no, Option.isSome_some, reduceIte, if_true, if_false, Bool.false_eq_true, Nat.reduceEqDiff]
          (repeat (first | refine ⟨rfl, ?_⟩ | refine ⟨fit0, ?_⟩))
          refine ifS (fun _ => ?_) fun _ => ⟨_, _, _, _, _, _, _, _, _, rfl, hxl⟩
          (repeat (first | refine ⟨rfl, ?_⟩ | refine ⟨fit0, ?_⟩))
          refine callDraw_io (by omega) (by omega) fun d2 a2 c2 l2 u2 => ?_
          simp -dsimp only [↓uSeq, ↓uNext, ↓uFor, ↓uSt, ↓uStV, ↓uAu, ↓uAp, ↓uApMv, ↓uAuN, ↓uAlias, ↓uDem, ↓uBrk, ↓uCnt, ↓uNev, ↓uRet, ↓uRetN, ↓uExp, ↓uExpP, ↓uRaise1, ↓wCallX, ↓uExpX, ↓uRetX, ↓uSetX, ↓uTryE, ↓gLtT, ↓iRngD, ↓vSortP, ↓vCat, ↓vCatV, ↓gCat, ↓uSet, ↓uSetR, ↓uIf, ↓wVar, ↓wVarV, ↓wC, ↓w1, ↓w2, ↓wT, asB, ↓wChain, ↓wNil, ↓wCons, ↓wAnd, ↓wOr, ↓wNot, ↓wAndV, ↓wOrV, ↓wNotV, ↓wIf, ↓wCallP, ↓wCallV, ↓wCa, ↓wTup, ↓wLst, ↓oNon, ↓oSom, ↓wSlice, ↓wRev, ↓vP, ↓vSh, ↓vFit, ↓vaNil, ↓vaCons, ↓vLst, ↓vTup, ↓vTup0, ↓vList, ↓vRep, ↓vSlice, ↓cSl, ↓vCallN, ↓v1, ↓vCa, ↓vIx, ↓tP, ↓vAnd, ↓vOr, ↓vNot, ↓vIf, ↓vT, ↓v2, ↓vLc, ↓gI2, ↓gI2c, ↓gLen, ↓gII, ↓gI, ↓gInt1, ↓gRep, ↓gKids, ↓gIn, ↓iLst, ↓TL.iTup, ↓TL.iRng1, ↓TL.iRng2, ↓iEn, ↓iZp, ↓hName, ↓hCons, ↓hNil, ↓hTup, ↓wSl, ↓wIsi, ↓wYes, rho0, iniE, entOf, allSh, List.replicate, List.length_cons, List.length_nil, Nat.reduceAdd, Nat.reduceSub, Nat.reduceLT, Nat.reduceLeDiff, List.cons_append, List.nil_append, List.getElem?_cons_zero, List.getElem?_cons_succ, Option.bind_some, Ent.tr, Ent.own, Ent.put, setE, killA, noAl_ow, noAl_io1, noAl_no, noAl_ro, noAl_al', killJ_cons, killJ_nil0, noRo_ow, noRo_io, noRo_no, noRo_al, mem1, notIn, noRA_ow, noRA_io, noRA_no, noRA_al, Plc, demE, List.foldl_cons, List.foldl_nil, List.map_cons, List.map_nil, List.set_cons_zero, List.set_cons_succ, endsOf, ↓outsOf, Option.map_some, plSet, TL.putAt, T.put, true_and, and_true, lst_set, lst_snoc, lm_set, lm_snoc, shOnly, shE_ow0, shE_ow1, shE_io, shE_no, Option.isSome_some, reduceIte, if_true, if_false, Bool.false_eq_true, Nat.reduceEqDiff]
          rw [ixN_nat (by rw [List.length_map]; omega)]
          refine ⟨rfl, fit0, _, _, _, _, _, _, _, _, _, rfl, by rw [List.length_set]; exact hxl⟩
      · obtain ⟨aa, cc, xs, x1, x2, x3, x4, x5, x7, rfl, hxl⟩ := hI
        exact ⟨_, _, _, _, _, _, _, _, _, _, rfl, hxl⟩
  · obtain ⟨a, c, xs, x1, x2, x3, x4, x5, x7, x8, rfl, hl⟩ := hI
    simp -dsimp only [↓uSeq, ↓uNext, ↓uFor, ↓uSt, ↓uStV, ↓uAu, ↓uAp, ↓uApMv, ↓uAuN, ↓uAlias, ↓uDem, ↓uBrk, ↓uCnt, ↓uNev, ↓uRet, ↓uRetN, ↓uExp, ↓uExpP, ↓uRaise1, ↓wCallX, ↓uExpX, ↓uRetX, ↓uSetX, ↓uTryE, ↓gLtT, ↓iRngD, ↓vSortP, ↓vCat, ↓vCatV, ↓gCat, ↓uSet, ↓uSetR, ↓uIf, ↓wVar, ↓wVarV, ↓wC, ↓w1, ↓w2, ↓wT, asB, ↓wChain, ↓wNil, ↓wCons, ↓wAnd, ↓wOr, ↓wNot, ↓wAndV, ↓wOrV, ↓wNotV, ↓wIf, ↓wCallP, ↓wCallV, ↓wCa, ↓wTup, ↓wLst, ↓oNon, ↓oSom, ↓wSlice, ↓wRev, ↓vP, ↓vSh, ↓vFit, ↓vaNil, ↓vaCons, ↓vLst, ↓vTup, ↓vTup0, ↓vList, ↓vRep, ↓vSlice, ↓cSl, ↓vCallN, ↓v1, ↓vCa, ↓vIx, ↓tP, ↓vAnd, ↓vOr, ↓vNot, ↓vIf, ↓vT, ↓v2, ↓vLc, ↓gI2, ↓gI2c, ↓gLen, ↓gII, ↓gI, ↓gInt1, ↓gRep, ↓gKids, ↓gIn, ↓iLst, ↓TL.iTup, ↓TL.iRng1, ↓TL.iRng2, ↓iEn, ↓iZp, ↓hName, ↓hCons, ↓hNil, ↓hTup, ↓wSl, ↓wIsi, ↓wYes, rho0, iniE, entOf, allSh, List.replicate, List.length_cons, List.length_nil, Nat.reduceAdd, Nat.reduceSub, Nat.reduceLT, Nat.reduceLeDiff, List.cons_append, List.nil_append, List.getElem?_cons_zero, List.getElem?_cons_succ, Option.bind_some, Ent.tr, Ent.own, Ent.put, setE, killA, noAl_ow, noAl_io1, noAl_no, noAl_ro, noAl_al', killJ_cons, killJ_nil0, noRo_ow, noRo_io, noRo_no, noRo_al, mem1, notIn, noRA_ow, noRA_io, noRA_no, noRA_al, Plc, demE, List.foldl_cons, List.foldl_nil, List.map_cons, List.map_nil, List.set_cons_zero, List.set_cons_succ, endsOf, ↓outsOf, Option.map_some, plSet, TL.putAt, T.put, true_and, and_true, lst_set, lst_snoc, lm_set, lm_snoc, shOnly, shE_ow0, shE_ow1, shE_io, shE_no, Option.isSome_some, reduceIte, if_true, if_false, Bool.false_eq_true, Nat.reduceEqDiff]
    exact h _ _ _ (by omega)
end
end K89
set_option Elab.async false
set_option linter.all false
set_option maxRecDepth 100000
namespace K89
open PySem PySem.Spec PyProof.Rows L2 L2H TL
section
variable {P : Program} {w : World} {K : PySem.W.Frag} {mg : Str → Option Value} {base : Heap}
theorem cut_hi {ts : List T} {d : Nat} : cutT ts none (some (d : Int)) = ts.take d := by
  unfold cutT
  rw [HT.sIx_none, HT.sIx_nat, List.drop_zero, Nat.sub_zero]
  rcases Nat.le_total d ts.length with z | z
  · rw [Nat.min_eq_left z]
  · rw [Nat.min_eq_right z, List.take_length, List.take_of_length_le z]
theorem cut_lo {ts : List T} {d : Nat} : cutT ts (some (d : Int)) none = ts.drop d := by
  unfold cutT
  rw [HT.sIx_none, HT.sIx_nat]
  rcases Nat.le_total d ts.length with z | z
  · rw [Nat.min_eq_left z, List.take_of_length_le (by rw [List.length_drop]; exact Nat.le_refl _)]
  · rw [Nat.min_eq_right z, List.drop_length, List.drop_eq_nil_of_le z, List.take_nil]
theorem cutk_hi {ks : List K3} {d : Nat} : cutT (ks.map tr3) none (some (d : Int)) = (ks.take d).map tr3 := by rw [cut_hi, List.map_take]
theorem cutk_lo {ks : List K3} {d : Nat} : cutT (ks.map tr3) (some (d : Int)) none = (ks.drop d).map tr3 := by rw [cut_lo, List.map_drop]
theorem flats_k (ks : List K3) : T.flats (ks.map tr3) = true := flatAts_iff.mpr fun t h => by
  obtain ⟨x, _, rfl⟩ := List.mem_map.mp h
  rfl
theorem snoc_k (ks : List K3) (x : K3) : ks.map tr3 ++ [.tup [.int x.1, .int x.2.1, .int x.2.2]] = (ks ++ [x]).map tr3 := by rw [List.map_append]; rfl
def W__law_drawn_kinds : FnT := fun ts R => ∃ (a b c : Int) (n : Nat), ts = [Li [a, b, c], .int n] ∧ n ≤ 400 ∧ ∀ (ks : List K3) a' c', goodK n ks → R 1 (Lk ks) [Li [a', b, c']]
set_option maxHeartbeats 4000000 in
theorem ok__law_drawn_kinds {k : Nat} (G : Gs K mg) : FnOk P w K mg base CX0 (k + 4) G.g__law_drawn_kinds.f G.g__law_drawn_kinds.d ["pool", "size"] (spT K [.io 1, .sh] W__law_drawn_kinds) := by
  refine fnT (k := k + 3) G.g__law_drawn_kinds.F sc__law_drawn_kinds rfl (fun X cdv A outer s H E hX hr => ?_)
  subst hX
  refine ⟨_, (ts_cons (ts_if (tvt_p (tpt_cmp op_eq opT_eqS (tp_var 1) tp_int (nomark _))) (ts_one (ts_ret (tv_lst 0 tva_nil (by simp) (by decide)))) ts_nil)
      (ts_cons (ts_set 2 sc__law_drawn_kinds.nd rfl (.inl rfl) (tv_call (ok__law_draw (k := k + 1) G) hr (by rfl) G.g__law_draw.g G.g__law_draw.F.kp G.g__law_draw.b (tca_sl 0 (tca_tv 0 (tv_p tp_int) tca_nil))))
      (ts_cons (ts_set 3 sc__law_drawn_kinds.nd rfl (.inl rfl) (tv_call (ok__law_draw (k := k + 1) G) hr (by rfl) G.g__law_draw.g G.g__law_draw.F.kp G.g__law_draw.b (tca_sl 0 (tca_tv 0 (tv_p tp_int) tca_nil))))
      (ts_consM (ts_if (tvt_p (tpt_cmp op_eq opT_eqS (tp_var 2) tp_int (nomark _))) (ts_one (ts_set 3 sc__law_drawn_kinds.nd rfl (.inl rfl) (tv_p tp_int))) ts_nil)
      (ts_cons (ts_set 4 sc__law_drawn_kinds.nd rfl (.inl rfl) (tv_call (ok__law_pick (k := k + 0) G) hr (by rfl) G.g__law_pick.g G.g__law_pick.F.kp G.g__law_pick.b (tca_sl 0 (tca_tv 0 (tv_sh (tp_lst (tpa_cons tp_int (tpa_cons tp_int (tpa_cons tp_int (tpa_cons tp_int tpa_nil)))))) tca_nil))))
      (ts_cons (ts_set 5 sc__law_drawn_kinds.nd rfl (.inl rfl) (tv_call (ok__law_pick (k := k + 0) G) hr (by rfl) G.g__law_pick.g G.g__law_pick.F.kp G.g__law_pick.b (tca_sl 0 (tca_tv 0 (tv_sh (tp_lst (tpa_cons tp_int (tpa_cons tp_int (tpa_cons tp_int (tpa_cons tp_int tpa_nil)))))) tca_nil))))
      (ts_consM (ts_if (tvt_p (tpt_cmp op_lt opT_bl (tp_var 2) tp_int (nomark _))) (ts_one (ts_set 5 sc__law_drawn_kinds.nd rfl (.inl rfl) (tv_call (ok__law_pick (k := k + 0) G) hr (by rfl) G.g__law_pick.g G.g__law_pick.F.kp G.g__law_pick.b (tca_sl 0 (tca_tv 0 (tv_sh (tp_lst (tpa_cons tp_int (tpa_cons tp_int (tpa_cons tp_int tpa_nil))))) tca_nil))))) ts_nil)
      (ts_cons (ts_set 6 sc__law_drawn_kinds.nd rfl (.inl rfl) (tv_lst 0 tva_nil (by simp) (by decide)))
      (ts_cons (ts_for PassesOwn.never rfl (ti_rng1 (by rfl) G.z_range (tp_var 3)) (tg_name 7 sc__law_drawn_kinds.nd rfl (.inl rfl)) (ts_cons (ts_set 8 sc__law_drawn_kinds.nd rfl (.inl rfl) (tv_callB (call_min2 rfl) caT_ii (by rfl) G.z_min (by decide +kernel) (tva_cons 0 (tv_p (tp_op op_sub opT_int (tp_var 1) tp_int)) (tva_cons 0 (tv_call (ok__law_draw (k := k + 1) G) hr (by rfl) G.g__law_draw.g G.g__law_draw.F.kp G.g__law_draw.b (tca_sl 0 (tca_tv 0 (tv_op op_add opT_int (tv_p tp_int) (tv_call (ok__law_draw (k := k + 1) G) hr (by rfl) G.g__law_draw.g G.g__law_draw.F.kp G.g__law_draw.b (tca_sl 0 (tca_tv 0 (tv_p (tp_var 1)) tca_nil)))) tca_nil))) tva_nil))))
      (ts_one (ts_app 6 (tv_tup0 (tva_cons 0 (tv_p (tp_var 8)) (tva_cons 0 (tv_call (ok__law_draw (k := k + 1) G) hr (by rfl) G.g__law_draw.g G.g__law_draw.F.kp G.g__law_draw.b (tca_sl 0 (tca_tv 0 (tv_p (tp_var 4)) tca_nil))) (tva_cons 0 (tv_call (ok__law_draw (k := k + 1) G) hr (by rfl) G.g__law_draw.g G.g__law_draw.F.kp G.g__law_draw.b (tca_sl 0 (tca_tv 0 (tv_p (tp_var 5)) tca_nil))) tva_nil))) (by simp) (by decide))))))
      (ts_cons (ts_if (tvt_p (TPW.pt (tpw_and (tpt_cmp op_gt opT_bl (tp_var 2) tp_int (nomark _)) (tpw_and1 (tpt_cmp op_lt opT_bl (tp_var 3) tp_int (nomark _)))))) (ts_cons (ts_set 9 sc__law_drawn_kinds.nd rfl (.inl rfl) (tv_tup0 (tva_cons 0 (tv_p tp_int) (tva_cons 0 (tv_call (ok__law_pick (k := k + 0) G) hr (by rfl) G.g__law_pick.g G.g__law_pick.F.kp G.g__law_pick.b (tca_sl 0 (tca_tv 0 (tv_sh (tp_lst (tpa_cons (tp_op op_sub opT_int (tp_var 4) tp_int) (tpa_cons tp_int (tpa_cons tp_int tpa_nil))))) tca_nil))) (tva_cons 0 (tv_call (ok__law_pick (k := k + 0) G) hr (by rfl) G.g__law_pick.g G.g__law_pick.F.kp G.g__law_pick.b (tca_sl 0 (tca_tv 0 (tv_sh (tp_lst (tpa_cons tp_int (tpa_cons tp_int (tpa_cons tp_int tpa_nil))))) tca_nil))) tva_nil))) (by simp) (by decide)))
      (ts_cons (ts_set 8 sc__law_drawn_kinds.nd rfl (.inl rfl) (tv_call (ok__law_draw (k := k + 1) G) hr (by rfl) G.g__law_draw.g G.g__law_draw.F.kp G.g__law_draw.b (tca_sl 0 (tca_tv 0 (tv_p (tp_op op_add opT_int (tp_var 3) tp_int)) tca_nil))))
      (ts_one (ts_set 6 sc__law_drawn_kinds.nd rfl (.inl rfl) (tv_cat (tp_op op_cat opT_cat (tp_slice (tp_var 6) tpo_none (tpo_some (tp_var 8))) (tp_lst (tpa_cons (tp_var 9) tpa_nil))) (tp_slice (tp_var 6) (tpo_some (tp_var 8)) tpo_none)))))) ts_nil)
      (ts_one (ts_ret (tv_var 6))))))))))))), fun ts R hW hlen => ?_⟩

  obtain ⟨a, b, c, n, rfl, hn, h⟩ := hW
  simp -dsimp only [↓uSeq, ↓uNext, ↓uFor, ↓uSt, ↓uStV, ↓uAu, ↓uAp, ↓uApMv, ↓uAuN, ↓uAlias, ↓uDem, ↓uBrk, ↓uCnt, ↓uNev, ↓uRet, ↓uRetN, ↓uExp, ↓uExpP, ↓uRaise1, ↓wCallX, ↓uExpX, ↓uRetX, ↓uSetX, ↓uTryE, ↓gLtT, ↓iRngD, ↓vSortP, ↓vCat, ↓vCatV, ↓gCat, ↓uSet, ↓uSetR, ↓uIf, ↓wVar, ↓wVarV, ↓wC, ↓w1, ↓w2, ↓wT, asB, ↓wChain, ↓wNil, ↓wCons, ↓wAnd, ↓wOr, ↓wNot, ↓wAndV, ↓wOrV, ↓wNotV, ↓wIf, ↓wCallP, ↓wCallV, ↓wCa, ↓wTup, ↓wLst, ↓oNon, ↓oSom, ↓wSlice, ↓wRev, ↓vP, ↓vSh, ↓vFit, ↓vaNil, ↓vaCons, ↓vLst, ↓vTup, ↓vTup0, ↓vList, ↓vRep, ↓vSlice, ↓cSl, ↓vCallN, ↓v1, ↓vCa, ↓vIx, ↓tP, ↓vAnd, ↓vOr, ↓vNot, ↓vIf, ↓vT, ↓v2, ↓vLc, ↓gI2, ↓gI2c, ↓gLen, ↓gII, ↓gI, ↓gInt1, ↓gRep, ↓gKids, ↓gIn, ↓iLst, ↓TL.iTup, ↓TL.iRng1, ↓TL.iRng2, ↓iEn, ↓iZp, ↓hName, ↓hCons, ↓hNil, ↓hTup, ↓wSl, ↓wIsi, ↓wYes, rho0, iniE, entOf, allSh, List.replicate, List.length_cons, List.length_nil, Nat.reduceAdd, Nat.reduceSub, Nat.reduceLT, Nat.reduceLeDiff, List.cons_append, List.nil_append, List.getElem?_cons_zero, List.getElem?_cons_succ, Option.bind_some, Ent.tr, Ent.own, Ent.put, setE, killA, noAl_ow, noAl_io1, noAl_no, noAl_ro, noAl_al', killJ_cons, killJ_nil0, noRo_ow, noRo_io, noRo_no, noRo_al, mem1, notIn, noRA_ow, noRA_io, noRA_no, noRA_al, Plc, demE, List.foldl_cons, List.foldl_nil, List.map_cons, List.map_nil, List.set_cons_zero, List.set_cons_succ, endsOf, ↓outsOf, Option.map_some, plSet, TL.putAt, T.put, true_and, and_true, lst_set, lst_snoc, lm_set, lm_snoc, shOnly, shE_ow0, shE_ow1, shE_io, shE_no, Option.isSome_some, reduceIte, if_true, if_false, Bool.false_eq_true, Nat.reduceEqDiff]
  refine ifS (fun _ => h [] _ _ ⟨by simp, by simp⟩) fun hn0 => ?_
  have hn0 : 0 < n := by
    have : ¬ (n : Int) = 0 := fun z => hn0 (decide_eq_true z)
    omega
  (repeat (first | refine ⟨rfl, ?_⟩ | refine ⟨fit0, ?_⟩))
  refine callDraw_io (by decide) (by decide) fun d1 a1 c1 l1 u1 => ?_
  simp -dsimp only [↓uSeq, ↓uNext, ↓uFor, ↓uSt, ↓uStV, ↓uAu, ↓uAp, ↓uApMv, ↓uAuN, ↓uAlias, ↓uDem, ↓uBrk, ↓uCnt, ↓uNev, ↓uRet, ↓uRetN, ↓uExp, ↓uExpP, ↓uRaise1, ↓wCallX, ↓uExpX, ↓uRetX, ↓uSetX, ↓uTryE, ↓gLtT, ↓iRngD, ↓vSortP, ↓vCat, ↓vCatV, ↓gCat, ↓uSet, ↓uSetR, ↓uIf, ↓wVar, ↓wVarV, ↓wC, ↓w1, ↓w2, ↓wT, asB, ↓wChain, ↓wNil, ↓wCons, ↓wAnd, ↓wOr, ↓wNot, ↓wAndV, ↓wOrV, ↓wNotV, ↓wIf, ↓wCallP, ↓wCallV, ↓wCa, ↓wTup, ↓wLst, ↓oNon, ↓oSom, ↓wSlice, ↓wRev, ↓vP, ↓vSh, ↓vFit, ↓vaNil, ↓vaCons, ↓vLst, ↓vTup, ↓vTup0, ↓vList, ↓vRep, ↓vSlice, ↓cSl, ↓vCallN, ↓v1, ↓vCa, ↓vIx, ↓tP, ↓vAnd, ↓vOr, ↓vNot, ↓vIf, ↓vT, ↓v2, ↓vLc, ↓gI2, ↓gI2c, ↓gLen, ↓gII, ↓gI, ↓gInt1, ↓gRep, ↓gKids, ↓gIn, ↓iLst, ↓TL.iTup, ↓TL.iRng1, ↓TL.iRng2, ↓iEn, ↓iZp, ↓hName, ↓hCons, ↓hNil, ↓hTup, ↓wSl, ↓wIsi, ↓wYes, rho0, iniE, entOf, allSh, List.replicate, List.length_cons, List.length_nil, Nat.reduceAdd, Nat.reduceSub, Nat.reduceLT, Nat.reduceLeDiff, List.cons_append, List.nil_append, List.getElem?_cons_zero, List.getElem?_cons_succ, Option.bind_some, Ent.tr, Ent.own, Ent.put, setE, killA, noAl_ow, noAl_io1, noAl_no, noAl_ro, noAl_al', killJ_cons, killJ_nil0, noRo_ow, noRo_io, noRo_no, noRo_al, mem1, notIn, noRA_ow, noRA_io, noRA_no, noRA_al, Plc, demE, List.foldl_cons, List.foldl_nil, List.map_cons, List.map_nil, List.set_cons_zero, List.set_cons_succ, endsOf, ↓outsOf, Option.map_some, plSet, TL.putAt, T.put, true_and, and_true, lst_set, lst_snoc, lm_set, lm_snoc, shOnly, shE_ow0, shE_ow1, shE_io, shE_no, Option.isSome_some, reduceIte, if_true, if_false, Bool.false_eq_true, Nat.reduceEqDiff]
  (repeat (first | refine ⟨rfl, ?_⟩ | refine ⟨fit0, ?_⟩))
  refine callDraw_io (by decide) (by decide) fun d2 a2 c2 l2 u2 => ?_
  simp -dsimp only [↓uSeq, ↓uNext, ↓uFor, ↓uSt, ↓uStV, ↓uAu, ↓uAp, ↓uApMv, ↓uAuN, ↓uAlias, ↓uDem, ↓uBrk, ↓uCnt, ↓uNev, ↓uRet, ↓uRetN, ↓uExp, ↓uExpP, ↓uRaise1, ↓wCallX, ↓uExpX, ↓uRetX, ↓uSetX, ↓uTryE, ↓gLtT, ↓iRngD, ↓vSortP, ↓vCat, ↓vCatV, ↓gCat, ↓uSet, ↓uSetR, ↓uIf, ↓wVar, ↓wVarV, ↓wC, ↓w1, ↓w2, ↓wT, asB, ↓wChain, ↓wNil, ↓wCons, ↓wAnd, ↓wOr, ↓wNot, ↓wAndV, ↓wOrV, ↓wNotV, ↓wIf, ↓wCallP, ↓wCallV, ↓wCa, ↓wTup, ↓wLst, ↓oNon, ↓oSom, ↓wSlice, ↓wRev, ↓vP, ↓vSh, ↓vFit, ↓vaNil, ↓vaCons, ↓vLst, ↓vTup, ↓vTup0, ↓vList, ↓vRep, ↓vSlice, ↓cSl, ↓vCallN, ↓v1, ↓vCa, ↓vIx, ↓tP, ↓vAnd, ↓vOr, ↓vNot, ↓vIf, ↓vT, ↓v2, ↓vLc, ↓gI2, ↓gI2c, ↓gLen, ↓gII, ↓gI, ↓gInt1, ↓gRep, ↓gKids, ↓gIn, ↓iLst, ↓TL.iTup, ↓TL.iRng1, ↓TL.iRng2, ↓iEn, ↓iZp, ↓hName, ↓hCons, ↓hNil, ↓hTup, ↓wSl, ↓wIsi, ↓wYes, rho0, iniE, entOf, allSh, List.replicate, List.length_cons, List.length_nil, Nat.reduceAdd, Nat.reduceSub, Nat.reduceLT, Nat.reduceLeDiff, List.cons_append, List.nil_append, List.getElem?_cons_zero, List.getElem?_cons_succ, Option.bind_some, Ent.tr, Ent.own, Ent.put, setE, killA, noAl_ow, noAl_io1, noAl_no, noAl_ro, noAl_al', killJ_cons, killJ_nil0, noRo_ow, noRo_io, noRo_no, noRo_al, mem1, notIn, noRA_ow, noRA_io, noRA_no, noRA_al, Plc, demE, List.foldl_cons, List.foldl_nil, List.map_cons, List.map_nil, List.set_cons_zero, List.set_cons_succ, endsOf, ↓outsOf, Option.map_some, plSet, TL.putAt, T.put, true_and, and_true, lst_set, lst_snoc, lm_set, lm_snoc, shOnly, shE_ow0, shE_ow1, shE_io, shE_no, Option.isSome_some, reduceIte, if_true, if_false, Bool.false_eq_true, Nat.reduceEqDiff]
  refine ⟨fun ρ => ∃ (a c : Int) (m : Nat), ρ = [Ent.io 1 (Li [a, b, c]), Ent.ow 0 (.int n), Ent.ow 0 (.int d1), Ent.ow 0 (.int m), Ent.no, Ent.no, Ent.no, Ent.no, Ent.no, Ent.no] ∧ m ≤ 20, ?_, fun ρ hI => ?_⟩
  · simp -dsimp only [↓uSeq, ↓uNext, ↓uFor, ↓uSt, ↓uStV, ↓uAu, ↓uAp, ↓uApMv, ↓uAuN, ↓uAlias, ↓uDem, ↓uBrk, ↓uCnt, ↓uNev, ↓uRet, ↓uRetN, ↓uExp, ↓uExpP, ↓uRaise1, ↓wCallX, ↓uExpX, ↓uRetX, ↓uSetX, ↓uTryE, ↓gLtT, ↓iRngD, ↓vSortP, ↓vCat, ↓vCatV, ↓gCat, ↓uSet, ↓uSetR, ↓uIf, ↓wVar, ↓wVarV, ↓wC, ↓w1, ↓w2, ↓wT, asB, ↓wChain, ↓wNil, ↓wCons, ↓wAnd, ↓wOr, ↓wNot, ↓wAndV, ↓wOrV, ↓wNotV, ↓wIf, ↓wCallP, ↓wCallV, ↓wCa, ↓wTup, ↓wLst, ↓oNon, ↓oSom, ↓wSlice, ↓wRev, ↓vP, ↓vSh, ↓vFit, ↓vaNil, ↓vaCons, ↓vLst, ↓vTup, ↓vTup0, ↓vList, ↓vRep, ↓vSlice, ↓cSl, ↓vCallN, ↓v1, ↓vCa, ↓vIx, ↓tP, ↓vAnd, ↓vOr, ↓vNot, ↓vIf, ↓vT, ↓v2, ↓vLc, ↓gI2, ↓gI2c, ↓gLen, ↓gII, ↓gI, ↓gInt1, ↓gRep, ↓gKids, ↓gIn, ↓iLst, ↓TL.iTup, ↓TL.iRng1, ↓TL.iRng2, ↓iEn, ↓iZp, ↓hName, ↓hCons, ↓hNil, ↓hTup, ↓wSl, ↓wIsi, ↓wYes, rho0, iniE, entOf, allSh, List.replicate, List.length_cons, List.length_nil, Nat.reduceAdd, Nat.reduceSub, Nat.reduceLT, Nat.reduceLeDiff, List.cons_append, List.nil_append, List.getElem?_cons_zero, List.getElem?_cons_succ, Option.bind_some, Ent.tr, Ent.own, Ent.put, setE, killA, noAl_ow, noAl_io1, noAl_no, noAl_ro, noAl_al', killJ_cons, killJ_nil0, noRo_ow, noRo_io, noRo_no, noRo_al, mem1, notIn, noRA_ow, noRA_io, noRA_no, noRA_al, Plc, demE, List.foldl_cons, List.foldl_nil, List.map_cons, List.map_nil, List.set_cons_zero, List.set_cons_succ, endsOf, ↓outsOf, Option.map_some, plSet, TL.putAt, T.put, true_and, and_true, lst_set, lst_snoc, lm_set, lm_snoc, shOnly, shE_ow0, shE_ow1, shE_io, shE_no, Option.isSome_some, reduceIte, if_true, if_false, Bool.false_eq_true, Nat.reduceEqDiff]
    refine ifS (fun _ => ?_) fun _ => ?_
    · exact ⟨rfl, _, _, 20, rfl, by omega⟩
    · obtain ⟨m, rfl⟩ := Int.eq_ofNat_of_zero_le l2
      exact ⟨_, _, m, rfl, by omega⟩
  obtain ⟨a3, c3, m, rfl, hm⟩ := hI
  simp -dsimp only [↓uSeq, ↓uNext, ↓uFor, ↓uSt, ↓uStV, ↓uAu, ↓uAp, ↓uApMv, ↓uAuN, ↓uAlias, ↓uDem, ↓uBrk, ↓uCnt, ↓uNev, ↓uRet, ↓uRetN, ↓uExp, ↓uExpP, ↓uRaise1, ↓wCallX, ↓uExpX, ↓uRetX, ↓uSetX, ↓uTryE, ↓gLtT, ↓iRngD, ↓vSortP, ↓vCat, ↓vCatV, ↓gCat, ↓uSet, ↓uSetR, ↓uIf, ↓wVar, ↓wVarV, ↓wC, ↓w1, ↓w2, ↓wT, asB, ↓wChain, ↓wNil, ↓wCons, ↓wAnd, ↓wOr, ↓wNot, ↓wAndV, ↓wOrV, ↓wNotV, ↓wIf, ↓wCallP, ↓wCallV, ↓wCa, ↓wTup, ↓wLst, ↓oNon, ↓oSom, ↓wSlice, ↓wRev, ↓vP, ↓vSh, ↓vFit, ↓vaNil, ↓vaCons, ↓vLst, ↓vTup, ↓vTup0, ↓vList, ↓vRep, ↓vSlice, ↓cSl, ↓vCallN, ↓v1, ↓vCa, ↓vIx, ↓tP, ↓vAnd, ↓vOr, ↓vNot, ↓vIf, ↓vT, ↓v2, ↓vLc, ↓gI2, ↓gI2c, ↓gLen, ↓gII, ↓gI, ↓gInt1, ↓gRep, ↓gKids, ↓gIn, ↓iLst, ↓TL.iTup, ↓TL.iRng1, ↓TL.iRng2, ↓iEn, ↓iZp, ↓hName, ↓hCons, ↓hNil, ↓hTup, ↓wSl, ↓wIsi, ↓wYes, rho0, iniE, entOf, allSh, List.replicate, List.length_cons, List.length_nil, Nat.reduceAdd, Nat.reduceSub, Nat.reduceLT, Nat.reduceLeDiff, List.cons_append, List.nil_append, List.getElem?_cons_zero, List.getElem?_cons_succ, Option.bind_some, Ent.tr, Ent.own, Ent.put, setE, killA, noAl_ow, noAl_io1, noAl_no, noAl_ro, noAl_al', killJ_cons, killJ_nil0, noRo_ow, noRo_io, noRo_no, noRo_al, mem1, notIn, noRA_ow, noRA_io, noRA_no, noRA_al, Plc, demE, List.foldl_cons, List.foldl_nil, List.map_cons, List.map_nil, List.set_cons_zero, List.set_cons_succ, endsOf, ↓outsOf, Option.map_some, plSet, TL.putAt, T.put, true_and, and_true, lst_set, lst_snoc, lm_set, lm_snoc, shOnly, shE_ow0, shE_ow1, shE_io, shE_no, Option.isSome_some, reduceIte, if_true, if_false, Bool.false_eq_true, Nat.reduceEqDiff]
  (repeat (first | refine ⟨rfl, ?_⟩ | refine ⟨fit0, ?_⟩))
  refine callPick_io (by decide) (by decide) fun v hv a3 c3 => ?_
  obtain ⟨pr, hpr, rfl⟩ := pk (xs := [2, 4, 9, 1001]) hv
  have p0 : 0 < pr ∧ pr ≤ 1001 := by simp at hpr; omega
  simp -dsimp only [↓uSeq, ↓uNext, ↓uFor, ↓uSt, ↓uStV, ↓uAu, ↓uAp, ↓uApMv, ↓uAuN, ↓uAlias, ↓uDem, ↓uBrk, ↓uCnt, ↓uNev, ↓uRet, ↓uRetN, ↓uExp, ↓uExpP, ↓uRaise1, ↓wCallX, ↓uExpX, ↓uRetX, ↓uSetX, ↓uTryE, ↓gLtT, ↓iRngD, ↓vSortP, ↓vCat, ↓vCatV, ↓gCat, ↓uSet, ↓uSetR, ↓uIf, ↓wVar, ↓wVarV, ↓wC, ↓w1, ↓w2, ↓wT, asB, ↓wChain, ↓wNil, ↓wCons, ↓wAnd, ↓wOr, ↓wNot, ↓wAndV, ↓wOrV, ↓wNotV, ↓wIf, ↓wCallP, ↓wCallV, ↓wCa, ↓wTup, ↓wLst, ↓oNon, ↓oSom, ↓wSlice, ↓wRev, ↓vP, ↓vSh, ↓vFit, ↓vaNil, ↓vaCons, ↓vLst, ↓vTup, ↓vTup0, ↓vList, ↓vRep, ↓vSlice, ↓cSl, ↓vCallN, ↓v1, ↓vCa, ↓vIx, ↓tP, ↓vAnd, ↓vOr, ↓vNot, ↓vIf, ↓vT, ↓v2, ↓vLc, ↓gI2, ↓gI2c, ↓gLen, ↓gII, ↓gI, ↓gInt1, ↓gRep, ↓gKids, ↓gIn, ↓iLst, ↓TL.iTup, ↓TL.iRng1, ↓TL.iRng2, ↓iEn, ↓iZp, ↓hName, ↓hCons, ↓hNil, ↓hTup, ↓wSl, ↓wIsi, ↓wYes, rho0, iniE, entOf, allSh, List.replicate, List.length_cons, List.length_nil, Nat.reduceAdd, Nat.reduceSub, Nat.reduceLT, Nat.reduceLeDiff, List.cons_append, List.nil_append, List.getElem?_cons_zero, List.getElem?_cons_succ, Option.bind_some, Ent.tr, Ent.own, Ent.put, setE, killA, noAl_ow, noAl_io1, noAl_no, noAl_ro, noAl_al', killJ_cons, killJ_nil0, noRo_ow, noRo_io, noRo_no, noRo_al, mem1, notIn, noRA_ow, noRA_io, noRA_no, noRA_al, Plc, demE, List.foldl_cons, List.foldl_nil, List.map_cons, List.map_nil, List.set_cons_zero, List.set_cons_succ, endsOf, ↓outsOf, Option.map_some, plSet, TL.putAt, T.put, true_and, and_true, lst_set, lst_snoc, lm_set, lm_snoc, shOnly, shE_ow0, shE_ow1, shE_io, shE_no, Option.isSome_some, reduceIte, if_true, if_false, Bool.false_eq_true, Nat.reduceEqDiff]
  (repeat (first | refine ⟨rfl, ?_⟩ | refine ⟨fit0, ?_⟩))
  refine callPick_io (by decide) (by decide) fun v hv a4 c4 => ?_
  obtain ⟨su, hsu, rfl⟩ := pk (xs := [3, 6, 12, 30]) hv
  have s0 : 0 < su ∧ su ≤ 2001 := by simp at hsu; omega
  simp -dsimp only [↓uSeq, ↓uNext, ↓uFor, ↓uSt, ↓uStV, ↓uAu, ↓uAp, ↓uApMv, ↓uAuN, ↓uAlias, ↓uDem, ↓uBrk, ↓uCnt, ↓uNev, ↓uRet, ↓uRetN, ↓uExp, ↓uExpP, ↓uRaise1, ↓wCallX, ↓uExpX, ↓uRetX, ↓uSetX, ↓uTryE, ↓gLtT, ↓iRngD, ↓vSortP, ↓vCat, ↓vCatV, ↓gCat, ↓uSet, ↓uSetR, ↓uIf, ↓wVar, ↓wVarV, ↓wC, ↓w1, ↓w2, ↓wT, asB, ↓wChain, ↓wNil, ↓wCons, ↓wAnd, ↓wOr, ↓wNot, ↓wAndV, ↓wOrV, ↓wNotV, ↓wIf, ↓wCallP, ↓wCallV, ↓wCa, ↓wTup, ↓wLst, ↓oNon, ↓oSom, ↓wSlice, ↓wRev, ↓vP, ↓vSh, ↓vFit, ↓vaNil, ↓vaCons, ↓vLst, ↓vTup, ↓vTup0, ↓vList, ↓vRep, ↓vSlice, ↓cSl, ↓vCallN, ↓v1, ↓vCa, ↓vIx, ↓tP, ↓vAnd, ↓vOr, ↓vNot, ↓vIf, ↓vT, ↓v2, ↓vLc, ↓gI2, ↓gI2c, ↓gLen, ↓gII, ↓gI, ↓gInt1, ↓gRep, ↓gKids, ↓gIn, ↓iLst, ↓TL.iTup, ↓TL.iRng1, ↓TL.iRng2, ↓iEn, ↓iZp, ↓hName, ↓hCons, ↓hNil, ↓hTup, ↓wSl, ↓wIsi, ↓wYes, rho0, iniE, entOf, allSh, List.replicate, List.length_cons, List.length_nil, Nat.reduceAdd, Nat.reduceSub, Nat.reduceLT, Nat.reduceLeDiff, List.cons_append, List.nil_append, List.getElem?_cons_zero, List.getElem?_cons_succ, Option.bind_some, Ent.tr, Ent.own, Ent.put, setE, killA, noAl_ow, noAl_io1, noAl_no, noAl_ro, noAl_al', killJ_cons, killJ_nil0, noRo_ow, noRo_io, noRo_no, noRo_al, mem1, notIn, noRA_ow, noRA_io, noRA_no, noRA_al, Plc, demE, List.foldl_cons, List.foldl_nil, List.map_cons, List.map_nil, List.set_cons_zero, List.set_cons_succ, endsOf, ↓outsOf, Option.map_some, plSet, TL.putAt, T.put, true_and, and_true, lst_set, lst_snoc, lm_set, lm_snoc, shOnly, shE_ow0, shE_ow1, shE_io, shE_no, Option.isSome_some, reduceIte, if_true, if_false, Bool.false_eq_true, Nat.reduceEqDiff]
  refine ⟨fun ρ => ∃ (a c : Int) (s : Int), ρ = [Ent.io 1 (Li [a, b, c]), Ent.ow 0 (.int n), Ent.ow 0 (.int d1), Ent.ow 0 (.int m), Ent.ow 0 (.int pr), Ent.ow 0 (.int s), Ent.no, Ent.no, Ent.no, Ent.no] ∧ 0 < s ∧ s ≤ 2001, ?_, fun ρ hI => ?_⟩
  · simp -dsimp only [↓uSeq, ↓uNext, ↓uFor, ↓uSt, ↓uStV, ↓uAu, ↓uAp, ↓uApMv, ↓uAuN, ↓uAlias, ↓uDem, ↓uBrk, ↓uCnt, ↓uNev, ↓uRet, ↓uRetN, ↓uExp, ↓uExpP, ↓uRaise1, ↓wCallX, ↓uExpX, ↓uRetX, ↓uSetX, ↓uTryE, ↓gLtT, ↓iRngD, ↓vSortP, ↓vCat, ↓vCatV, ↓gCat, ↓uSet, ↓uSetR, ↓uIf, ↓wVar, ↓wVarV, ↓wC, ↓w1, ↓w2, ↓wT, asB, ↓wChain, ↓wNil, ↓wCons, ↓wAnd, ↓wOr, ↓wNot, ↓wAndV, ↓wOrV, ↓wNotV, ↓wIf, ↓wCallP, ↓wCallV, ↓wCa, ↓wTup, ↓wLst, ↓oNon, ↓oSom, ↓wSlice, ↓wRev, ↓vP, ↓vSh, ↓vFit, ↓vaNil, ↓vaCons, ↓vLst, ↓vTup, ↓vTup0, ↓vList, ↓vRep, ↓vSlice, ↓cSl, ↓vCallN, ↓v1, ↓vCa, ↓vIx, ↓tP, ↓vAnd, ↓vOr, ↓vNot, ↓vIf, ↓vT, ↓v2, ↓vLc, ↓gI2, ↓gI2c, ↓gLen, ↓gII, ↓gI, ↓gInt1, ↓gRep, ↓gKids, ↓gIn, ↓iLst, ↓TL.iTup, ↓TL.iRng1, ↓TL.iRng2, ↓iEn, ↓iZp, ↓hName, ↓hCons, ↓hNil, ↓hTup, ↓wSl, ↓wIsi, ↓wYes, rho0, iniE, entOf, allSh, List.replicate, List.length_cons, List.length_nil, Nat.reduceAdd, Nat.reduceSub, Nat.reduceLT, Nat.reduceLeDiff, List.cons_append, List.nil_append, List.getElem?_cons_zero, List.getElem?_cons_succ, Option.bind_some, Ent.tr, Ent.own, Ent.put, setE, killA, noAl_ow, noAl_io1, noAl_no, noAl_ro, noAl_al', killJ_cons, killJ_nil0, noRo_ow, noRo_io, noRo_no, noRo_al, mem1, notIn, noRA_ow, noRA_io, noRA_no, noRA_al, Plc, demE, List.foldl_cons, List.foldl_nil, List.map_cons, List.map_nil, List.set_cons_zero, List.set_cons_succ, endsOf, ↓outsOf, Option.map_some, plSet, TL.putAt, T.put, true_and, and_true, lst_set, lst_snoc, lm_set, lm_snoc, shOnly, shE_ow0, shE_ow1, shE_io, shE_no, Option.isSome_some, reduceIte, if_true, if_false, Bool.false_eq_true, Nat.reduceEqDiff]
    refine ifS (fun _ => ?_) fun _ => ⟨_, _, _, rfl, s0⟩
    (repeat (first | refine ⟨rfl, ?_⟩ | refine ⟨fit0, ?_⟩))
    refine callPick_io (by decide) (by decide) fun v hv a5 c5 => ?_
    obtain ⟨s2, hs2, rfl⟩ := pk (xs := [400, 2001, 2001]) hv
    simp -dsimp only [↓uSeq, ↓uNext, ↓uFor, ↓uSt, ↓uStV, ↓uAu, ↓uAp, ↓uApMv, ↓uAuN, ↓uAlias, ↓uDem, ↓uBrk, ↓uCnt, ↓uNev, ↓uRet, ↓uRetN, ↓uExp, ↓uExpP, ↓uRaise1, ↓wCallX, ↓uExpX, ↓uRetX, ↓uSetX, ↓uTryE, ↓gLtT, ↓iRngD, ↓vSortP, ↓vCat, ↓vCatV, ↓gCat, ↓uSet, ↓uSetR, ↓uIf, ↓wVar, ↓wVarV, ↓wC, ↓w1, ↓w2, ↓wT, asB, ↓wChain, ↓wNil, ↓wCons, ↓wAnd, ↓wOr, ↓wNot, ↓wAndV, ↓wOrV, ↓wNotV, ↓wIf, ↓wCallP, ↓wCallV, ↓wCa, ↓wTup, ↓wLst, ↓oNon, ↓oSom, ↓wSlice, ↓wRev, ↓vP, ↓vSh, ↓vFit, ↓vaNil, ↓vaCons, ↓vLst, ↓vTup, ↓vTup0, ↓vList, ↓vRep, ↓vSlice, ↓cSl, ↓vCallN, ↓v1, ↓vCa, ↓vIx, ↓tP, ↓vAnd, ↓vOr, ↓vNot, ↓vIf, ↓vT, ↓v2, ↓vLc, ↓gI2, ↓gI2c, ↓gLen, ↓gII, ↓gI, ↓gInt1, ↓gRep, ↓gKids, ↓gIn, ↓iLst, ↓TL.iTup, ↓TL.iRng1, ↓TL.iRng2, ↓iEn, ↓iZp, ↓hName, ↓hCons, ↓hNil, ↓hTup, ↓wSl, ↓wIsi, ↓wYes, rho0, iniE, entOf, allSh, List.replicate, List.length_cons, List.length_nil, Nat.reduceAdd, Nat.reduceSub, Nat.reduceLT, Nat.reduceLeDiff, List.cons_append, List.nil_append, List.getElem?_cons_zero, List.getElem?_cons_succ, Option.bind_some, Ent.tr, Ent.own, Ent.put, setE, killA, noAl_ow, noAl_io1, noAl_no, noAl_ro, noAl_al', killJ_cons, killJ_nil0, noRo_ow, noRo_io, noRo_no, noRo_al, mem1, notIn, noRA_ow, noRA_io, noRA_no, noRA_al, Plc, demE, List.foldl_cons, List.foldl_nil, List.map_cons, List.map_nil, List.set_cons_zero, List.set_cons_succ, endsOf, ↓outsOf, Option.map_some, plSet, TL.putAt, T.put, true_and, and_true, lst_set, lst_snoc, lm_set, lm_snoc, shOnly, shE_ow0, shE_ow1, shE_io, shE_no, Option.isSome_some, reduceIte, if_true, if_false, Bool.false_eq_true, Nat.reduceEqDiff]
    exact ⟨_, _, _, rfl, by simp at hs2; omega⟩
  clear s0 hsu
  obtain ⟨a5, c5, su, rfl, s0⟩ := hI
  simp -dsimp only [↓uSeq, ↓uNext, ↓uFor, ↓uSt, ↓uStV, ↓uAu, ↓uAp, ↓uApMv, ↓uAuN, ↓uAlias, ↓uDem, ↓uBrk, ↓uCnt, ↓uNev, ↓uRet, ↓uRetN, ↓uExp, ↓uExpP, ↓uRaise1, ↓wCallX, ↓uExpX, ↓uRetX, ↓uSetX, ↓uTryE, ↓gLtT, ↓iRngD, ↓vSortP, ↓vCat, ↓vCatV, ↓gCat, ↓uSet, ↓uSetR, ↓uIf, ↓wVar, ↓wVarV, ↓wC, ↓w1, ↓w2, ↓wT, asB, ↓wChain, ↓wNil, ↓wCons, ↓wAnd, ↓wOr, ↓wNot, ↓wAndV, ↓wOrV, ↓wNotV, ↓wIf, ↓wCallP, ↓wCallV, ↓wCa, ↓wTup, ↓wLst, ↓oNon, ↓oSom, ↓wSlice, ↓wRev, ↓vP, ↓vSh, ↓vFit, ↓vaNil, ↓vaCons, ↓vLst, ↓vTup, ↓vTup0, ↓vList, ↓vRep, ↓vSlice, ↓cSl, ↓vCallN, ↓v1, ↓vCa, ↓vIx, ↓tP, ↓vAnd, ↓vOr, ↓vNot, ↓vIf, ↓vT, ↓v2, ↓vLc, ↓gI2, ↓gI2c, ↓gLen, ↓gII, ↓gI, ↓gInt1, ↓gRep, ↓gKids, ↓gIn, ↓iLst, ↓TL.iTup, ↓TL.iRng1, ↓TL.iRng2, ↓iEn, ↓iZp, ↓hName, ↓hCons, ↓hNil, ↓hTup, ↓wSl, ↓wIsi, ↓wYes, rho0, iniE, entOf, allSh, List.replicate, List.length_cons, List.length_nil, Nat.reduceAdd, Nat.reduceSub, Nat.reduceLT, Nat.reduceLeDiff, List.cons_append, List.nil_append, List.getElem?_cons_zero, List.getElem?_cons_succ, Option.bind_some, Ent.tr, Ent.own, Ent.put, setE, killA, noAl_ow, noAl_io1, noAl_no, noAl_ro, noAl_al', killJ_cons, killJ_nil0, noRo_ow, noRo_io, noRo_no, noRo_al, mem1, notIn, noRA_ow, noRA_io, noRA_no, noRA_al, Plc, demE, List.foldl_cons, List.foldl_nil, List.map_cons, List.map_nil, List.set_cons_zero, List.set_cons_succ, endsOf, ↓outsOf, Option.map_some, plSet, TL.putAt, T.put, true_and, and_true, lst_set, lst_snoc, lm_set, lm_snoc, shOnly, shE_ow0, shE_ow1, shE_io, shE_no, Option.isSome_some, reduceIte, if_true, if_false, Bool.false_eq_true, Nat.reduceEqDiff]
  rw [Int.toNat_natCast]
  refine ⟨by omega, by omega, fun i ρ => ∃ (a c : Int) (ks : List K3) (x7 x8 : Ent), ρ = [Ent.io 1 (Li [a, b, c]), Ent.ow 0 (.int n), Ent.ow 0 (.int d1), Ent.ow 0 (.int m), Ent.ow 0 (.int pr), Ent.ow 0 (.int su), Ent.ow 1 (Lk ks), x7, x8, Ent.no] ∧ ks.length = i ∧ ∀ x ∈ ks, gk1 n x, ⟨_, _, [], _, _, rfl, rfl, by simp⟩, fun i t ρ hi hI => ?_, fun ρ hI => ?_⟩
  · obtain ⟨aa, cc, ks, x7, x8, rfl, hl, hg⟩ := hI
    obtain ⟨hil, rfl⟩ := rgT_get.mp hi
    simp -dsimp only [↓uSeq, ↓uNext, ↓uFor, ↓uSt, ↓uStV, ↓uAu, ↓uAp, ↓uApMv, ↓uAuN, ↓uAlias, ↓uDem, ↓uBrk, ↓uCnt, ↓uNev, ↓uRet, ↓uRetN, ↓uExp, ↓uExpP, ↓uRaise1, ↓wCallX, ↓uExpX, ↓uRetX, ↓uSetX, ↓uTryE, ↓gLtT, ↓iRngD, ↓vSortP, ↓vCat, ↓vCatV, ↓gCat, ↓uSet, ↓uSetR, ↓uIf, ↓wVar, ↓wVarV, ↓wC, ↓w1, ↓w2, ↓wT, asB, ↓wChain, ↓wNil, ↓wCons, ↓wAnd, ↓wOr, ↓wNot, ↓wAndV, ↓wOrV, ↓wNotV, ↓wIf, ↓wCallP, ↓wCallV, ↓wCa, ↓wTup, ↓wLst, ↓oNon, ↓oSom, ↓wSlice, ↓wRev, ↓vP, ↓vSh, ↓vFit, ↓vaNil, ↓vaCons, ↓vLst, ↓vTup, ↓vTup0, ↓vList, ↓vRep, ↓vSlice, ↓cSl, ↓vCallN, ↓v1, ↓vCa, ↓vIx, ↓tP, ↓vAnd, ↓vOr, ↓vNot, ↓vIf, ↓vT, ↓v2, ↓vLc, ↓gI2, ↓gI2c, ↓gLen, ↓gII, ↓gI, ↓gInt1, ↓gRep, ↓gKids, ↓gIn, ↓iLst, ↓TL.iTup, ↓TL.iRng1, ↓TL.iRng2, ↓iEn, ↓iZp, ↓hName, ↓hCons, ↓hNil, ↓hTup, ↓wSl, ↓wIsi, ↓wYes, rho0, iniE, entOf, allSh, List.replicate, List.length_cons, List.length_nil, Nat.reduceAdd, Nat.reduceSub, Nat.reduceLT, Nat.reduceLeDiff, List.cons_append, List.nil_append, List.getElem?_cons_zero, List.getElem?_cons_succ, Option.bind_some, Ent.tr, Ent.own, Ent.put, setE, killA, noAl_ow, noAl_io1, noAl_no, noAl_ro, noAl_al', killJ_cons, killJ_nil0, noRo_ow, noRo_io, noRo_no, noRo_al, mem1, notIn, noRA_ow, noRA_io, noRA_no, noRA_al, Plc, demE, List.foldl_cons, List.foldl_nil, List.map_cons, List.map_nil, List.set_cons_zero, List.set_cons_succ, endsOf, ↓outsOf, Option.map_some, plSet, TL.putAt, T.put, true_and, and_true, lst_set, lst_snoc, lm_set, lm_snoc, shOnly, shE_ow0, shE_ow1, shE_io, shE_no, Option.isSome_some, reduceIte, if_true, if_false, Bool.false_eq_true, Nat.reduceEqDiff]
    (repeat (first | refine ⟨rfl, ?_⟩ | refine ⟨fit0, ?_⟩))
    refine callDraw_io (by omega) (by omega) fun d6 a6 c6 l6 u6 => ?_
    simp -dsimp only [↓uSeq, ↓uNext, ↓uFor, ↓uSt, ↓uStV, ↓uAu, ↓uAp, ↓uApMv, ↓uAuN, ↓uAlias, ↓uDem, ↓uBrk, ↓uCnt, ↓uNev, ↓uRet, ↓uRetN, ↓uExp, ↓uExpP, ↓uRaise1, ↓wCallX, ↓uExpX, ↓uRetX, ↓uSetX, ↓uTryE, ↓gLtT, ↓iRngD, ↓vSortP, ↓vCat, ↓vCatV, ↓gCat, ↓uSet, ↓uSetR, ↓uIf, ↓wVar, ↓wVarV, ↓wC, ↓w1, ↓w2, ↓wT, asB, ↓wChain, ↓wNil, ↓wCons, ↓wAnd, ↓wOr, ↓wNot, ↓wAndV, ↓wOrV, ↓wNotV, ↓wIf, ↓wCallP, ↓wCallV, ↓wCa, ↓wTup, ↓wLst, ↓oNon, ↓oSom, ↓wSlice, ↓wRev, ↓vP, ↓vSh, ↓vFit, ↓vaNil, ↓vaCons, ↓vLst, ↓vTup, ↓vTup0, ↓vList, ↓vRep, ↓vSlice, ↓cSl, ↓vCallN, ↓v1, ↓vCa, ↓vIx, ↓tP, ↓vAnd, ↓vOr, ↓vNot, ↓vIf, ↓vT, ↓v2, ↓vLc, ↓gI2, ↓gI2c, ↓gLen, ↓gII, ↓gI, ↓gInt1, ↓gRep, ↓gKids, ↓gIn, ↓iLst, ↓TL.iTup, ↓TL.iRng1, ↓TL.iRng2, ↓iEn, ↓iZp, ↓hName, ↓hCons, ↓hNil, ↓hTup, ↓wSl, ↓wIsi, ↓wYes, rho0, iniE, entOf, allSh, List.replicate, List.length_cons, List.length_nil, Nat.reduceAdd, Nat.reduceSub, Nat.reduceLT, Nat.reduceLeDiff, List.cons_append, List.nil_append, List.getElem?_cons_zero, List.getElem?_cons_succ, Option.bind_some, Ent.tr, Ent.own, Ent.put, setE, killA, noAl_ow, noAl_io1, noAl_no, noAl_ro, noAl_al', killJ_cons, killJ_nil0, noRo_ow, noRo_io, noRo_no, noRo_al, mem1, notIn, noRA_ow, noRA_io, noRA_no, noRA_al, Plc, demE, List.foldl_cons, List.foldl_nil, List.map_cons, List.map_nil, List.set_cons_zero, List.set_cons_succ, endsOf, ↓outsOf, Option.map_some, plSet, TL.putAt, T.put, true_and, and_true, lst_set, lst_snoc, lm_set, lm_snoc, shOnly, shE_ow0, shE_ow1, shE_io, shE_no, Option.isSome_some, reduceIte, if_true, if_false, Bool.false_eq_true, Nat.reduceEqDiff]
    (repeat (first | refine ⟨rfl, ?_⟩ | refine ⟨fit0, ?_⟩))
    refine callDraw_io (by omega) (by omega) fun d7 a7 c7 l7 u7 => ?_
    simp -dsimp only [↓uSeq, ↓uNext, ↓uFor, ↓uSt, ↓uStV, ↓uAu, ↓uAp, ↓uApMv, ↓uAuN, ↓uAlias, ↓uDem, ↓uBrk, ↓uCnt, ↓uNev, ↓uRet, ↓uRetN, ↓uExp, ↓uExpP, ↓uRaise1, ↓wCallX, ↓uExpX, ↓uRetX, ↓uSetX, ↓uTryE, ↓gLtT, ↓iRngD, ↓vSortP, ↓vCat, ↓vCatV, ↓gCat, ↓uSet, ↓uSetR, ↓uIf, ↓wVar, ↓wVarV, ↓wC, ↓w1, ↓w2, ↓wT, asB, ↓wChain, ↓wNil, ↓wCons, ↓wAnd, ↓wOr, ↓wNot, ↓wAndV, ↓wOrV, ↓wNotV, ↓wIf, ↓wCallP, ↓wCallV, ↓wCa, ↓wTup, ↓wLst, ↓oNon, ↓oSom, ↓wSlice, ↓wRev, ↓vP, ↓vSh, ↓vFit, ↓vaNil, ↓vaCons, ↓vLst, ↓vTup, ↓vTup0, ↓vList, ↓vRep, ↓vSlice, ↓cSl, ↓vCallN, ↓v1, ↓vCa, ↓vIx, ↓tP, ↓vAnd, ↓vOr, ↓vNot, ↓vIf, ↓vT, ↓v2, ↓vLc, ↓gI2, ↓gI2c, ↓gLen, ↓gII, ↓gI, ↓gInt1, ↓gRep, ↓gKids, ↓gIn, ↓iLst, ↓TL.iTup, ↓TL.iRng1, ↓TL.iRng2, ↓iEn, ↓iZp, ↓hName, ↓hCons, ↓hNil, ↓hTup, ↓wSl, ↓wIsi, ↓wYes, rho0, iniE, entOf, allSh, List.replicate, List.length_cons, List.length_nil, Nat.reduceAdd, Nat.reduceSub, Nat.reduceLT, Nat.reduceLeDiff, List.cons_append, List.nil_append, List.getElem?_cons_zero, List.getElem?_cons_succ, Option.bind_some, Ent.tr, Ent.own, Ent.put, setE, killA, noAl_ow, noAl_io1, noAl_no, noAl_ro, noAl_al', killJ_cons, killJ_nil0, noRo_ow, noRo_io, noRo_no, noRo_al, mem1, notIn, noRA_ow, noRA_io, noRA_no, noRA_al, Plc, demE, List.foldl_cons, List.foldl_nil, List.map_cons, List.map_nil, List.set_cons_zero, List.set_cons_succ, endsOf, ↓outsOf, Option.map_some, plSet, TL.putAt, T.put, true_and, and_true, lst_set, lst_snoc, lm_set, lm_snoc, shOnly, shE_ow0, shE_ow1, shE_io, shE_no, Option.isSome_some, reduceIte, if_true, if_false, Bool.false_eq_true, Nat.reduceEqDiff]
    (repeat (first | refine ⟨rfl, ?_⟩ | refine ⟨fit0, ?_⟩))
    refine callDraw_io (by omega) (by omega) fun d8 a8 c8 l8 u8 => ?_
    simp -dsimp only [↓uSeq, ↓uNext, ↓uFor, ↓uSt, ↓uStV, ↓uAu, ↓uAp, ↓uApMv, ↓uAuN, ↓uAlias, ↓uDem, ↓uBrk, ↓uCnt, ↓uNev, ↓uRet, ↓uRetN, ↓uExp, ↓uExpP, ↓uRaise1, ↓wCallX, ↓uExpX, ↓uRetX, ↓uSetX, ↓uTryE, ↓gLtT, ↓iRngD, ↓vSortP, ↓vCat, ↓vCatV, ↓gCat, ↓uSet, ↓uSetR, ↓uIf, ↓wVar, ↓wVarV, ↓wC, ↓w1, ↓w2, ↓wT, asB, ↓wChain, ↓wNil, ↓wCons, ↓wAnd, ↓wOr, ↓wNot, ↓wAndV, ↓wOrV, ↓wNotV, ↓wIf, ↓wCallP, ↓wCallV, ↓wCa, ↓wTup, ↓wLst, ↓oNon, ↓oSom, ↓wSlice, ↓wRev, ↓vP, ↓vSh, ↓vFit, ↓vaNil, ↓vaCons, ↓vLst, ↓vTup, ↓vTup0, ↓vList, ↓vRep, ↓vSlice, ↓cSl, ↓vCallN, ↓v1, ↓vCa, ↓vIx, ↓tP, ↓vAnd, ↓vOr, ↓vNot, ↓vIf, ↓vT, ↓v2, ↓vLc, ↓gI2, ↓gI2c, ↓gLen, ↓gII, ↓gI, ↓gInt1, ↓gRep, ↓gKids, ↓gIn, ↓iLst, ↓TL.iTup, ↓TL.iRng1, ↓TL.iRng2, ↓iEn, ↓iZp, ↓hName, ↓hCons, ↓hNil, ↓hTup, ↓wSl, ↓wIsi, ↓wYes, rho0, iniE, entOf, allSh, List.replicate, List.length_cons, List.length_nil, Nat.reduceAdd, Nat.reduceSub, Nat.reduceLT, Nat.reduceLeDiff, List.cons_append, List.nil_append, List.getElem?_cons_zero, List.getElem?_cons_succ, Option.bind_some, Ent.tr, Ent.own, Ent.put, setE, killA, noAl_ow, noAl_io1, noAl_no, noAl_ro, noAl_al', killJ_cons, killJ_nil0, noRo_ow, noRo_io, noRo_no, noRo_al, mem1, notIn, noRA_ow, noRA_io, noRA_no, noRA_al, Plc, demE, List.foldl_cons, List.foldl_nil, List.map_cons, List.map_nil, List.set_cons_zero, List.set_cons_succ, endsOf, ↓outsOf, Option.map_some, plSet, TL.putAt, T.put, true_and, and_true, lst_set, lst_snoc, lm_set, lm_snoc, shOnly, shE_ow0, shE_ow1, shE_io, shE_no, Option.isSome_some, reduceIte, if_true, if_false, Bool.false_eq_true, Nat.reduceEqDiff]
    (repeat (first | refine ⟨rfl, ?_⟩ | refine ⟨fit0, ?_⟩))
    refine callDraw_io (by omega) (by omega) fun d9 a9 c9 l9 u9 => ?_
    simp -dsimp only [↓uSeq, ↓uNext, ↓uFor, ↓uSt, ↓uStV, ↓uAu, ↓uAp, ↓uApMv, ↓uAuN, ↓uAlias, ↓uDem, ↓uBrk, ↓uCnt, ↓uNev, ↓uRet, ↓uRetN, ↓uExp, ↓uExpP, ↓uRaise1, ↓wCallX, ↓uExpX, ↓uRetX, ↓uSetX, ↓uTryE, ↓gLtT, ↓iRngD, ↓vSortP, ↓vCat, ↓vCatV, ↓gCat, ↓uSet, ↓uSetR, ↓uIf, ↓wVar, ↓wVarV, ↓wC, ↓w1, ↓w2, ↓wT, asB, ↓wChain, ↓wNil, ↓wCons, ↓wAnd, ↓wOr, ↓wNot, ↓wAndV, ↓wOrV, ↓wNotV, ↓wIf, ↓wCallP, ↓wCallV, ↓wCa, ↓wTup, ↓wLst, ↓oNon, ↓oSom, ↓wSlice, ↓wRev, ↓vP, ↓vSh, ↓vFit, ↓vaNil, ↓vaCons, ↓vLst, ↓vTup, ↓vTup0, ↓vList, ↓vRep, ↓vSlice, ↓cSl, ↓vCallN, ↓v1, ↓vCa, ↓vIx, ↓tP, ↓vAnd, ↓vOr, ↓vNot, ↓vIf, ↓vT, ↓v2, ↓vLc, ↓gI2, ↓gI2c, ↓gLen, ↓gII, ↓gI, ↓gInt1, ↓gRep, ↓gKids, ↓gIn, ↓iLst, ↓TL.iTup, ↓TL.iRng1, ↓TL.iRng2, ↓iEn, ↓iZp, ↓hName, ↓hCons, ↓hNil, ↓hTup, ↓wSl, ↓wIsi, ↓wYes, rho0, iniE, entOf, allSh, List.replicate, List.length_cons, List.length_nil, Nat.reduceAdd, Nat.reduceSub, Nat.reduceLT, Nat.reduceLeDiff, List.cons_append, List.nil_append, List.getElem?_cons_zero, List.getElem?_cons_succ, Option.bind_some, Ent.tr, Ent.own, Ent.put, setE, killA, noAl_ow, noAl_io1, noAl_no, noAl_ro, noAl_al', killJ_cons, killJ_nil0, noRo_ow, noRo_io, noRo_no, noRo_al, mem1, notIn, noRA_ow, noRA_io, noRA_no, noRA_al, Plc, demE, List.foldl_cons, List.foldl_nil, List.map_cons, List.map_nil, List.set_cons_zero, List.set_cons_succ, endsOf, ↓outsOf, Option.map_some, plSet, TL.putAt, T.put, true_and, and_true, lst_set, lst_snoc, lm_set, lm_snoc, shOnly, shE_ow0, shE_ow1, shE_io, shE_no, Option.isSome_some, reduceIte, if_true, if_false, Bool.false_eq_true, Nat.reduceEqDiff]
    (repeat (first | refine ⟨rfl, ?_⟩ | refine ⟨fit0, ?_⟩))
    refine ⟨by rw [List.length_map]; omega, a9, c9, ks ++ [(if d7 < (n : Int) - 1 then d7 else (n : Int) - 1, d8, d9)], .ow 0 (.int i), .ow 0 (.int (if d7 < (n : Int) - 1 then d7 else (n : Int) - 1)), ?_, ?_, ?_⟩
    · simp only [Lk]
      rw [← snoc_k]
      rw [Int.zero_add]
    · rw [List.length_append, hl]; rfl
    · intro x hx
      rcases List.mem_append.mp hx with hx | hx
      · exact hg x hx
      · rw [List.mem_singleton] at hx
        subst hx
        refine ⟨⟨?_, ?_⟩, ⟨l8, by show d8 ≤ _; omega⟩, l9, by show d9 ≤ _; omega⟩
        · show 0 ≤ if d7 < (n : Int) - 1 then d7 else (n : Int) - 1
          split <;> omega
        · show (if d7 < (n : Int) - 1 then d7 else (n : Int) - 1) < n
          split <;> omega
  obtain ⟨aa, cc, ks, x7, x8, rfl, hl, hg⟩ := hI
  simp -dsimp only [↓uSeq, ↓uNext, ↓uFor, ↓uSt, ↓uStV, ↓uAu, ↓uAp, ↓uApMv, ↓uAuN, ↓uAlias, ↓uDem, ↓uBrk, ↓uCnt, ↓uNev, ↓uRet, ↓uRetN, ↓uExp, ↓uExpP, ↓uRaise1, ↓wCallX, ↓uExpX, ↓uRetX, ↓uSetX, ↓uTryE, ↓gLtT, ↓iRngD, ↓vSortP, ↓vCat, ↓vCatV, ↓gCat, ↓uSet, ↓uSetR, ↓uIf, ↓wVar, ↓wVarV, ↓wC, ↓w1, ↓w2, ↓wT, asB, ↓wChain, ↓wNil, ↓wCons, ↓wAnd, ↓wOr, ↓wNot, ↓wAndV, ↓wOrV, ↓wNotV, ↓wIf, ↓wCallP, ↓wCallV, ↓wCa, ↓wTup, ↓wLst, ↓oNon, ↓oSom, ↓wSlice, ↓wRev, ↓vP, ↓vSh, ↓vFit, ↓vaNil, ↓vaCons, ↓vLst, ↓vTup, ↓vTup0, ↓vList, ↓vRep, ↓vSlice, ↓cSl, ↓vCallN, ↓v1, ↓vCa, ↓vIx, ↓tP, ↓vAnd, ↓vOr, ↓vNot, ↓vIf, ↓vT, ↓v2, ↓vLc, ↓gI2, ↓gI2c, ↓gLen, ↓gII, ↓gI, ↓gInt1, ↓gRep, ↓gKids, ↓gIn, ↓iLst, ↓TL.iTup, ↓TL.iRng1, ↓TL.iRng2, ↓iEn, ↓iZp, ↓hName, ↓hCons, ↓hNil, ↓hTup, ↓wSl, ↓wIsi, ↓wYes, rho0, iniE, entOf, allSh, List.replicate, List.length_cons, List.length_nil, Nat.reduceAdd, Nat.reduceSub, Nat.reduceLT, Nat.reduceLeDiff, List.cons_append, List.nil_append, List.getElem?_cons_zero, List.getElem?_cons_succ, Option.bind_some, Ent.tr, Ent.own, Ent.put, setE, killA, noAl_ow, noAl_io1, noAl_no, noAl_ro, noAl_al', killJ_cons, killJ_nil0, noRo_ow, noRo_io, noRo_no, noRo_al, mem1, notIn, noRA_ow, noRA_io, noRA_no, noRA_al, Plc, demE, List.foldl_cons, List.foldl_nil, List.map_cons, List.map_nil, List.set_cons_zero, List.set_cons_succ, endsOf, ↓outsOf, Option.map_some, plSet, TL.putAt, T.put, true_and, and_true, lst_set, lst_snoc, lm_set, lm_snoc, shOnly, shE_ow0, shE_ow1, shE_io, shE_no, Option.isSome_some, reduceIte, if_true, if_false, Bool.false_eq_true, Nat.reduceEqDiff]
  have hk : goodK n ks := ⟨by rw [hl, rgT_len]; exact hm, hg⟩
  refine ifS (fun q1 => ifS (fun q2 => ?_) fun _ => h ks _ _ hk) fun _ => h ks _ _ hk
  (repeat (first | refine ⟨rfl, ?_⟩ | refine ⟨fit0, ?_⟩))
  refine callPick_io (by simp) (by simp) fun v hv a6 c6 => ?_
  obtain ⟨sp, hsp, rfl⟩ := pk (xs := [pr - 1, 1000, 3]) hv
  simp -dsimp only [↓uSeq, ↓uNext, ↓uFor, ↓uSt, ↓uStV, ↓uAu, ↓uAp, ↓uApMv, ↓uAuN, ↓uAlias, ↓uDem, ↓uBrk, ↓uCnt, ↓uNev, ↓uRet, ↓uRetN, ↓uExp, ↓uExpP, ↓uRaise1, ↓wCallX, ↓uExpX, ↓uRetX, ↓uSetX, ↓uTryE, ↓gLtT, ↓iRngD, ↓vSortP, ↓vCat, ↓vCatV, ↓gCat, ↓uSet, ↓uSetR, ↓uIf, ↓wVar, ↓wVarV, ↓wC, ↓w1, ↓w2, ↓wT, asB, ↓wChain, ↓wNil, ↓wCons, ↓wAnd, ↓wOr, ↓wNot, ↓wAndV, ↓wOrV, ↓wNotV, ↓wIf, ↓wCallP, ↓wCallV, ↓wCa, ↓wTup, ↓wLst, ↓oNon, ↓oSom, ↓wSlice, ↓wRev, ↓vP, ↓vSh, ↓vFit, ↓vaNil, ↓vaCons, ↓vLst, ↓vTup, ↓vTup0, ↓vList, ↓vRep, ↓vSlice, ↓cSl, ↓vCallN, ↓v1, ↓vCa, ↓vIx, ↓tP, ↓vAnd, ↓vOr, ↓vNot, ↓vIf, ↓vT, ↓v2, ↓vLc, ↓gI2, ↓gI2c, ↓gLen, ↓gII, ↓gI, ↓gInt1, ↓gRep, ↓gKids, ↓gIn, ↓iLst, ↓TL.iTup, ↓TL.iRng1, ↓TL.iRng2, ↓iEn, ↓iZp, ↓hName, ↓hCons, ↓hNil, ↓hTup, ↓wSl, ↓wIsi, ↓wYes, rho0, iniE, entOf, allSh, List.replicate, List.length_cons, List.length_nil, Nat.reduceAdd, Nat.reduceSub, Nat.reduceLT, Nat.reduceLeDiff, List.cons_append, List.nil_append, List.getElem?_cons_zero, List.getElem?_cons_succ, Option.bind_some, Ent.tr, Ent.own, Ent.put, setE, killA, noAl_ow, noAl_io1, noAl_no, noAl_ro, noAl_al', killJ_cons, killJ_nil0, noRo_ow, noRo_io, noRo_no, noRo_al, mem1, notIn, noRA_ow, noRA_io, noRA_no, noRA_al, Plc, demE, List.foldl_cons, List.foldl_nil, List.map_cons, List.map_nil, List.set_cons_zero, List.set_cons_succ, endsOf, ↓outsOf, Option.map_some, plSet, TL.putAt, T.put, true_and, and_true, lst_set, lst_snoc, lm_set, lm_snoc, shOnly, shE_ow0, shE_ow1, shE_io, shE_no, Option.isSome_some, reduceIte, if_true, if_false, Bool.false_eq_true, Nat.reduceEqDiff]
  (repeat (first | refine ⟨rfl, ?_⟩ | refine ⟨fit0, ?_⟩))
  refine callPick_io (by decide) (by decide) fun v hv a7 c7 => ?_
  obtain ⟨ss, hss, rfl⟩ := pk (xs := [2000, 20, 40]) hv
  simp -dsimp only [↓uSeq, ↓uNext, ↓uFor, ↓uSt, ↓uStV, ↓uAu, ↓uAp, ↓uApMv, ↓uAuN, ↓uAlias, ↓uDem, ↓uBrk, ↓uCnt, ↓uNev, ↓uRet, ↓uRetN, ↓uExp, ↓uExpP, ↓uRaise1, ↓wCallX, ↓uExpX, ↓uRetX, ↓uSetX, ↓uTryE, ↓gLtT, ↓iRngD, ↓vSortP, ↓vCat, ↓vCatV, ↓gCat, ↓uSet, ↓uSetR, ↓uIf, ↓wVar, ↓wVarV, ↓wC, ↓w1, ↓w2, ↓wT, asB, ↓wChain, ↓wNil, ↓wCons, ↓wAnd, ↓wOr, ↓wNot, ↓wAndV, ↓wOrV, ↓wNotV, ↓wIf, ↓wCallP, ↓wCallV, ↓wCa, ↓wTup, ↓wLst, ↓oNon, ↓oSom, ↓wSlice, ↓wRev, ↓vP, ↓vSh, ↓vFit, ↓vaNil, ↓vaCons, ↓vLst, ↓vTup, ↓vTup0, ↓vList, ↓vRep, ↓vSlice, ↓cSl, ↓vCallN, ↓v1, ↓vCa, ↓vIx, ↓tP, ↓vAnd, ↓vOr, ↓vNot, ↓vIf, ↓vT, ↓v2, ↓vLc, ↓gI2, ↓gI2c, ↓gLen, ↓gII, ↓gI, ↓gInt1, ↓gRep, ↓gKids, ↓gIn, ↓iLst, ↓TL.iTup, ↓TL.iRng1, ↓TL.iRng2, ↓iEn, ↓iZp, ↓hName, ↓hCons, ↓hNil, ↓hTup, ↓wSl, ↓wIsi, ↓wYes, rho0, iniE, entOf, allSh, List.replicate, List.length_cons, List.length_nil, Nat.reduceAdd, Nat.reduceSub, Nat.reduceLT, Nat.reduceLeDiff, List.cons_append, List.nil_append, List.getElem?_cons_zero, List.getElem?_cons_succ, Option.bind_some, Ent.tr, Ent.own, Ent.put, setE, killA, noAl_ow, noAl_io1, noAl_no, noAl_ro, noAl_al', killJ_cons, killJ_nil0, noRo_ow, noRo_io, noRo_no, noRo_al, mem1, notIn, noRA_ow, noRA_io, noRA_no, noRA_al, Plc, demE, List.foldl_cons, List.foldl_nil, List.map_cons, List.map_nil, List.set_cons_zero, List.set_cons_succ, endsOf, ↓outsOf, Option.map_some, plSet, TL.putAt, T.put, true_and, and_true, lst_set, lst_snoc, lm_set, lm_snoc, shOnly, shE_ow0, shE_ow1, shE_io, shE_no, Option.isSome_some, reduceIte, if_true, if_false, Bool.false_eq_true, Nat.reduceEqDiff]
  (repeat (first | refine ⟨rfl, ?_⟩ | refine ⟨fit0, ?_⟩))
  refine callDraw_io (by omega) (by omega) fun d8 a8 c8 l8 u8 => ?_
  simp -dsimp only [↓uSeq, ↓uNext, ↓uFor, ↓uSt, ↓uStV, ↓uAu, ↓uAp, ↓uApMv, ↓uAuN, ↓uAlias, ↓uDem, ↓uBrk, ↓uCnt, ↓uNev, ↓uRet, ↓uRetN, ↓uExp, ↓uExpP, ↓uRaise1, ↓wCallX, ↓uExpX, ↓uRetX, ↓uSetX, ↓uTryE, ↓gLtT, ↓iRngD, ↓vSortP, ↓vCat, ↓vCatV, ↓gCat, ↓uSet, ↓uSetR, ↓uIf, ↓wVar, ↓wVarV, ↓wC, ↓w1, ↓w2, ↓wT, asB, ↓wChain, ↓wNil, ↓wCons, ↓wAnd, ↓wOr, ↓wNot, ↓wAndV, ↓wOrV, ↓wNotV, ↓wIf, ↓wCallP, ↓wCallV, ↓wCa, ↓wTup, ↓wLst, ↓oNon, ↓oSom, ↓wSlice, ↓wRev, ↓vP, ↓vSh, ↓vFit, ↓vaNil, ↓vaCons, ↓vLst, ↓vTup, ↓vTup0, ↓vList, ↓vRep, ↓vSlice, ↓cSl, ↓vCallN, ↓v1, ↓vCa, ↓vIx, ↓tP, ↓vAnd, ↓vOr, ↓vNot, ↓vIf, ↓vT, ↓v2, ↓vLc, ↓gI2, ↓gI2c, ↓gLen, ↓gII, ↓gI, ↓gInt1, ↓gRep, ↓gKids, ↓gIn, ↓iLst, ↓TL.iTup, ↓TL.iRng1, ↓TL.iRng2, ↓iEn, ↓iZp, ↓hName, ↓hCons, ↓hNil, ↓hTup, ↓wSl, ↓wIsi, ↓wYes, rho0, iniE, entOf, allSh, List.replicate, List.length_cons, List.length_nil, Nat.reduceAdd, Nat.reduceSub, Nat.reduceLT, Nat.reduceLeDiff, List.cons_append, List.nil_append, List.getElem?_cons_zero, List.getElem?_cons_succ, Option.bind_some, Ent.tr, Ent.own, Ent.put, setE, killA, noAl_ow, noAl_io1, noAl_no, noAl_ro, noAl_al', killJ_cons, killJ_nil0, noRo_ow, noRo_io, noRo_no, noRo_al, mem1, notIn, noRA_ow, noRA_io, noRA_no, noRA_al, Plc, demE, List.foldl_cons, List.foldl_nil, List.map_cons, List.map_nil, List.set_cons_zero, List.set_cons_succ, endsOf, ↓outsOf, Option.map_some, plSet, TL.putAt, T.put, true_and, and_true, lst_set, lst_snoc, lm_set, lm_snoc, shOnly, shE_ow0, shE_ow1, shE_io, shE_no, Option.isSome_some, reduceIte, if_true, if_false, Bool.false_eq_true, Nat.reduceEqDiff]
  (repeat (first | refine ⟨rfl, ?_⟩ | refine ⟨fit0, ?_⟩))
  obtain ⟨d, rfl⟩ := Int.eq_ofNat_of_zero_le l8
  have hm6 : m < 20 := by have := of_decide_eq_true q2; omega
  rw [rgT_len] at hl
  have e : (ks.take d).map tr3 ++ [T.tup [T.int 0, T.int sp, T.int ss]] ++ (ks.drop d).map tr3 = (ks.take d ++ [(0, sp, ss)] ++ ks.drop d).map tr3 := by rw [List.map_append, List.map_append]; rfl
  have el : (ks.take d ++ [((0, sp, ss) : K3)] ++ ks.drop d).length = m + 1 := by
    rw [List.length_append, List.length_append, List.length_take, List.length_drop, List.length_singleton]; omega
  rw [cutk_hi, cutk_lo, e]
  refine ⟨by rw [List.length_map, List.length_take]; omega, ?_, flats_k _, h _ _ _ ⟨by omega, fun x hx => ?_⟩⟩
  · rw [← List.length_append, e, List.length_map]; omega
  · rcases List.mem_append.mp hx with hx | hx
    · rcases List.mem_append.mp hx with hx | hx
      · exact hg x (List.mem_of_mem_take hx)
      · rw [List.mem_singleton] at hx
        subst hx
        simp at hsp hss
        exact ⟨⟨by show (0 : Int) ≤ 0; omega, by show (0 : Int) < n; omega⟩, ⟨by show 0 ≤ sp; omega, by show sp ≤ 1000; omega⟩, by show 0 ≤ ss; omega, by show ss ≤ 2000; omega⟩
    · exact hg x (List.mem_of_mem_drop hx)
end
end K89
set_option Elab.async false
set_option linter.all false
set_option maxRecDepth 100000
namespace K89
open PySem PySem.Spec PyProof.Rows L2 L2H TL
section
variable {P : Program} {w : World} {K : PySem.W.Frag} {mg : Str → Option Value} {base : Heap}
def W__law_bad_kind : FnT := fun ts R => ∃ (a b c : Int) (n : Nat), ts = [Li [a, b, c], .int n] ∧ 0 < n ∧ n ≤ 400 ∧ ∀ (x : K3) a' c', ¬ gk1 n x → R 0 (tr3 x) [Li [a', b, c']]
set_option maxHeartbeats 4000000 in
theorem ok__law_bad_kind {k : Nat} (G : Gs K mg) : FnOk P w K mg base CX0 (k + 4) G.g__law_bad_kind.f G.g__law_bad_kind.d ["pool", "size"] (spT K [.io 1, .sh] W__law_bad_kind) := by
  refine fnT (k := k + 3) G.g__law_bad_kind.F sc__law_bad_kind rfl (fun X cdv A outer s H E hX hr => ?_)
  subst hX
  refine ⟨_, (ts_cons (ts_set 2 sc__law_bad_kind.nd rfl (.inl rfl) (tv_call (ok__law_draw (k := k + 1) G) hr (by rfl) G.g__law_draw.g G.g__law_draw.F.kp G.g__law_draw.b (tca_sl 0 (tca_tv 0 (tv_p (tp_var 1)) tca_nil))))
      (ts_cons (ts_set 3 sc__law_bad_kind.nd rfl (.inl rfl) (tv_call (ok__law_draw (k := k + 1) G) hr (by rfl) G.g__law_draw.g G.g__law_draw.F.kp G.g__law_draw.b (tca_sl 0 (tca_tv 0 (tv_p tp_int) tca_nil))))
      (ts_cons (ts_set 4 sc__law_bad_kind.nd rfl (.inl rfl) (tv_call (ok__law_draw (k := k + 1) G) hr (by rfl) G.g__law_draw.g G.g__law_draw.F.kp G.g__law_draw.b (tca_sl 0 (tca_tv 0 (tv_p tp_int) tca_nil))))
      (ts_cons (ts_set 5 sc__law_bad_kind.nd rfl (.inl rfl) (tv_call (ok__law_pick (k := k + 0) G) hr (by rfl) G.g__law_pick.g G.g__law_pick.F.kp G.g__law_pick.b (tca_sl 0 (tca_tv 0 (tv_sh (tp_lst (tpa_cons tp_int (tpa_cons tp_int (tpa_cons tp_int (tpa_cons tp_int (tpa_cons (tp_op op_pow opT_intc tp_int tp_int) tpa_nil))))))) tca_nil))))
      (ts_cons (ts_set 6 sc__law_bad_kind.nd rfl (.inl rfl) (tv_sh (tp_lst (tpa_cons (tp_tup (tpa_cons (tp_op op_sub opT_int (tp_op op_sub opT_int tp_int tp_int) (tp_var 5)) (tpa_cons (tp_var 3) (tpa_cons (tp_var 4) tpa_nil)))) (tpa_cons (tp_tup (tpa_cons (tp_op op_add opT_int (tp_var 1) (tp_var 5)) (tpa_cons (tp_var 3) (tpa_cons (tp_var 4) tpa_nil)))) (tpa_cons (tp_tup (tpa_cons (tp_var 2) (tpa_cons (tp_op op_sub opT_int (tp_op op_sub opT_int tp_int tp_int) (tp_var 5)) (tpa_cons (tp_var 4) tpa_nil)))) tpa_nil))))))
      (ts_cons (ts_set 6 sc__law_bad_kind.nd rfl (.inl rfl) (tv_sh (tp_op op_cat opT_cat (tp_var 6) (tp_lst (tpa_cons (tp_tup (tpa_cons (tp_var 2) (tpa_cons (tp_op op_add opT_int tp_int (tp_var 5)) (tpa_cons (tp_var 4) tpa_nil)))) (tpa_cons (tp_tup (tpa_cons (tp_var 2) (tpa_cons (tp_var 3) (tpa_cons (tp_op op_sub opT_int (tp_op op_sub opT_int tp_int tp_int) (tp_var 5)) tpa_nil)))) (tpa_cons (tp_tup (tpa_cons (tp_var 2) (tpa_cons (tp_var 3) (tpa_cons (tp_op op_add opT_int tp_int (tp_var 5)) tpa_nil)))) tpa_nil)))))))
      (ts_one (ts_ret (tv_call (ok__law_pick (k := k + 0) G) hr (by rfl) G.g__law_pick.g G.g__law_pick.F.kp G.g__law_pick.b (tca_sl 0 (tca_tv 0 (tv_var 6) tca_nil))))))))))), fun ts R hW hlen => ?_⟩

  obtain ⟨a, b, c, n, rfl, hn, hn4, h⟩ := hW
  simp -dsimp only [↓uSeq, ↓uNext, ↓uFor, ↓uSt, ↓uStV, ↓uAu, ↓uAp, ↓uApMv, ↓uAuN, ↓uAlias, ↓uDem, ↓uBrk, ↓uCnt, ↓uNev, ↓uRet, ↓uRetN, ↓uExp, ↓uExpP, ↓uRaise1, ↓wCallX, ↓uExpX, ↓uRetX, ↓uSetX, ↓uTryE, ↓gLtT, ↓iRngD, ↓vSortP, ↓vCat, ↓vCatV, ↓gCat, ↓uSet, ↓uSetR, ↓uIf, ↓wVar, ↓wVarV, ↓wC, ↓w1, ↓w2, ↓wT, asB, ↓wChain, ↓wNil, ↓wCons, ↓wAnd, ↓wOr, ↓wNot, ↓wAndV, ↓wOrV, ↓wNotV, ↓wIf, ↓wCallP, ↓wCallV, ↓wCa, ↓wTup, ↓wLst, ↓oNon, ↓oSom, ↓wSlice, ↓wRev, ↓vP, ↓vSh, ↓vFit, ↓vaNil, ↓vaCons, ↓vLst, ↓vTup, ↓vTup0, ↓vList, ↓vRep, ↓vSlice, ↓cSl, ↓vCallN, ↓v1, ↓vCa, ↓vIx, ↓tP, ↓vAnd, ↓vOr, ↓vNot, ↓vIf, ↓vT, ↓v2, ↓vLc, ↓gI2, ↓gI2c, ↓gLen, ↓gII, ↓gI, ↓gInt1, ↓gRep, ↓gKids, ↓gIn, ↓iLst, ↓TL.iTup, ↓TL.iRng1, ↓TL.iRng2, ↓iEn, ↓iZp, ↓hName, ↓hCons, ↓hNil, ↓hTup, ↓wSl, ↓wIsi, ↓wYes, rho0, iniE, entOf, allSh, List.replicate, List.length_cons, List.length_nil, Nat.reduceAdd, Nat.reduceSub, Nat.reduceLT, Nat.reduceLeDiff, List.cons_append, List.nil_append, List.getElem?_cons_zero, List.getElem?_cons_succ, Option.bind_some, Ent.tr, Ent.own, Ent.put, setE, killA, noAl_ow, noAl_io1, noAl_no, noAl_ro, noAl_al', killJ_cons, killJ_nil0, noRo_ow, noRo_io, noRo_no, noRo_al, mem1, notIn, noRA_ow, noRA_io, noRA_no, noRA_al, Plc, demE, List.foldl_cons, List.foldl_nil, List.map_cons, List.map_nil, List.set_cons_zero, List.set_cons_succ, endsOf, ↓outsOf, Option.map_some, plSet, TL.putAt, T.put, true_and, and_true, lst_set, lst_snoc, lm_set, lm_snoc, shOnly, shE_ow0, shE_ow1, shE_io, shE_no, Option.isSome_some, reduceIte, if_true, if_false, Bool.false_eq_true, Nat.reduceEqDiff]
  (repeat (first | refine ⟨rfl, ?_⟩ | refine ⟨fit0, ?_⟩))
  refine callDraw_io (by omega) (by omega) fun d1 a1 c1 l1 u1 => ?_
  simp -dsimp only [↓uSeq, ↓uNext, ↓uFor, ↓uSt, ↓uStV, ↓uAu, ↓uAp, ↓uApMv, ↓uAuN, ↓uAlias, ↓uDem, ↓uBrk, ↓uCnt, ↓uNev, ↓uRet, ↓uRetN, ↓uExp, ↓uExpP, ↓uRaise1, ↓wCallX, ↓uExpX, ↓uRetX, ↓uSetX, ↓uTryE, ↓gLtT, ↓iRngD, ↓vSortP, ↓vCat, ↓vCatV, ↓gCat, ↓uSet, ↓uSetR, ↓uIf, ↓wVar, ↓wVarV, ↓wC, ↓w1, ↓w2, ↓wT, asB, ↓wChain, ↓wNil, ↓wCons, ↓wAnd, ↓wOr, ↓wNot, ↓wAndV, ↓wOrV, ↓wNotV, ↓wIf, ↓wCallP, ↓wCallV, ↓wCa, ↓wTup, ↓wLst, ↓oNon, ↓oSom, ↓wSlice, ↓wRev, ↓vP, ↓vSh, ↓vFit, ↓vaNil, ↓vaCons, ↓vLst, ↓vTup, ↓vTup0, ↓vList, ↓vRep, ↓vSlice, ↓cSl, ↓vCallN, ↓v1, ↓vCa, ↓vIx, ↓tP, ↓vAnd, ↓vOr, ↓vNot, ↓vIf, ↓vT, ↓v2, ↓vLc, ↓gI2, ↓gI2c, ↓gLen, ↓gII, ↓gI, ↓gInt1, ↓gRep, ↓gKids, ↓gIn, ↓iLst, ↓TL.iTup, ↓TL.iRng1, ↓TL.iRng2, ↓iEn, ↓iZp, ↓hName, ↓hCons, ↓hNil, ↓hTup, ↓wSl, ↓wIsi, ↓wYes, rho0, iniE, entOf, allSh, List.replicate, List.length_cons, List.length_nil, Nat.reduceAdd, Nat.reduceSub, Nat.reduceLT, Nat.reduceLeDiff, List.cons_append, List.nil_append, List.getElem?_cons_zero, List.getElem?_cons_succ, Option.bind_some, Ent.tr, Ent.own, Ent.put, setE, killA, noAl_ow, noAl_io1, noAl_no, noAl_ro, noAl_al', killJ_cons, killJ_nil0, noRo_ow, noRo_io, noRo_no, noRo_al, mem1, notIn, noRA_ow, noRA_io, noRA_no, noRA_al, Plc, demE, List.foldl_cons, List.foldl_nil, List.map_cons, List.map_nil, List.set_cons_zero, List.set_cons_succ, endsOf, ↓outsOf, Option.map_some, plSet, TL.putAt, T.put, true_and, and_true, lst_set, lst_snoc, lm_set, lm_snoc, shOnly, shE_ow0, shE_ow1, shE_io, shE_no, Option.isSome_some, reduceIte, if_true, if_false, Bool.false_eq_true, Nat.reduceEqDiff]
  (repeat (first | refine ⟨rfl, ?_⟩ | refine ⟨fit0, ?_⟩))
  refine callDraw_io (by decide) (by decide) fun d2 a2 c2 l2 u2 => ?_
  simp -dsimp only [↓uSeq, ↓uNext, ↓uFor, ↓uSt, ↓uStV, ↓uAu, ↓uAp, ↓uApMv, ↓uAuN, ↓uAlias, ↓uDem, ↓uBrk, ↓uCnt, ↓uNev, ↓uRet, ↓uRetN, ↓uExp, ↓uExpP, ↓uRaise1, ↓wCallX, ↓uExpX, ↓uRetX, ↓uSetX, ↓uTryE, ↓gLtT, ↓iRngD, ↓vSortP, ↓vCat, ↓vCatV, ↓gCat, ↓uSet, ↓uSetR, ↓uIf, ↓wVar, ↓wVarV, ↓wC, ↓w1, ↓w2, ↓wT, asB, ↓wChain, ↓wNil, ↓wCons, ↓wAnd, ↓wOr, ↓wNot, ↓wAndV, ↓wOrV, ↓wNotV, ↓wIf, ↓wCallP, ↓wCallV, ↓wCa, ↓wTup, ↓wLst, ↓oNon, ↓oSom, ↓wSlice, ↓wRev, ↓vP, ↓vSh, ↓vFit, ↓vaNil, ↓vaCons, ↓vLst, ↓vTup, ↓vTup0, ↓vList, ↓vRep, ↓vSlice, ↓cSl, ↓vCallN, ↓v1, ↓vCa, ↓vIx, ↓tP, ↓vAnd, ↓vOr, ↓vNot, ↓vIf, ↓vT, ↓v2, ↓vLc, ↓gI2, ↓gI2c, ↓gLen, ↓gII, ↓gI, ↓gInt1, ↓gRep, ↓gKids, ↓gIn, ↓iLst, ↓TL.iTup, ↓TL.iRng1, ↓TL.iRng2, ↓iEn, ↓iZp, ↓hName, ↓hCons, ↓hNil, ↓hTup, ↓wSl, ↓wIsi, ↓wYes, rho0, iniE, entOf, allSh, List.replicate, List.length_cons, List.length_nil, Nat.reduceAdd, Nat.reduceSub, Nat.reduceLT, Nat.reduceLeDiff, List.cons_append, List.nil_append, List.getElem?_cons_zero, List.getElem?_cons_succ, Option.bind_some, Ent.tr, Ent.own, Ent.put, setE, killA, noAl_ow, noAl_io1, noAl_no, noAl_ro, noAl_al', killJ_cons, killJ_nil0, noRo_ow, noRo_io, noRo_no, noRo_al, mem1, notIn, noRA_ow, noRA_io, noRA_no, noRA_al, Plc, demE, List.foldl_cons, List.foldl_nil, List.map_cons, List.map_nil, List.set_cons_zero, List.set_cons_succ, endsOf, ↓outsOf, Option.map_some, plSet, TL.putAt, T.put, true_and, and_true, lst_set, lst_snoc, lm_set, lm_snoc, shOnly, shE_ow0, shE_ow1, shE_io, shE_no, Option.isSome_some, reduceIte, if_true, if_false, Bool.false_eq_true, Nat.reduceEqDiff]
  (repeat (first | refine ⟨rfl, ?_⟩ | refine ⟨fit0, ?_⟩))
  refine callDraw_io (by decide) (by decide) fun d3 a3 c3 l3 u3 => ?_
  simp -dsimp only [↓uSeq, ↓uNext, ↓uFor, ↓uSt, ↓uStV, ↓uAu, ↓uAp, ↓uApMv, ↓uAuN, ↓uAlias, ↓uDem, ↓uBrk, ↓uCnt, ↓uNev, ↓uRet, ↓uRetN, ↓uExp, ↓uExpP, ↓uRaise1, ↓wCallX, ↓uExpX, ↓uRetX, ↓uSetX, ↓uTryE, ↓gLtT, ↓iRngD, ↓vSortP, ↓vCat, ↓vCatV, ↓gCat, ↓uSet, ↓uSetR, ↓uIf, ↓wVar, ↓wVarV, ↓wC, ↓w1, ↓w2, ↓wT, asB, ↓wChain, ↓wNil, ↓wCons, ↓wAnd, ↓wOr, ↓wNot, ↓wAndV, ↓wOrV, ↓wNotV, ↓wIf, ↓wCallP, ↓wCallV, ↓wCa, ↓wTup, ↓wLst, ↓oNon, ↓oSom, ↓wSlice, ↓wRev, ↓vP, ↓vSh, ↓vFit, ↓vaNil, ↓vaCons, ↓vLst, ↓vTup, ↓vTup0, ↓vList, ↓vRep, ↓vSlice, ↓cSl, ↓vCallN, ↓v1, ↓vCa, ↓vIx, ↓tP, ↓vAnd, ↓vOr, ↓vNot, ↓vIf, ↓vT, ↓v2, ↓vLc, ↓gI2, ↓gI2c, ↓gLen, ↓gII, ↓gI, ↓gInt1, ↓gRep, ↓gKids, ↓gIn, ↓iLst, ↓TL.iTup, ↓TL.iRng1, ↓TL.iRng2, ↓iEn, ↓iZp, ↓hName, ↓hCons, ↓hNil, ↓hTup, ↓wSl, ↓wIsi, ↓wYes, rho0, iniE, entOf, allSh, List.replicate, List.length_cons, List.length_nil, Nat.reduceAdd, Nat.reduceSub, Nat.reduceLT, Nat.reduceLeDiff, List.cons_append, List.nil_append, List.getElem?_cons_zero, List.getElem?_cons_succ, Option.bind_some, Ent.tr, Ent.own, Ent.put, setE, killA, noAl_ow, noAl_io1, noAl_no, noAl_ro, noAl_al', killJ_cons, killJ_nil0, noRo_ow, noRo_io, noRo_no, noRo_al, mem1, notIn, noRA_ow, noRA_io, noRA_no, noRA_al, Plc, demE, List.foldl_cons, List.foldl_nil, List.map_cons, List.map_nil, List.set_cons_zero, List.set_cons_succ, endsOf, ↓outsOf, Option.map_some, plSet, TL.putAt, T.put, true_and, and_true, lst_set, lst_snoc, lm_set, lm_snoc, shOnly, shE_ow0, shE_ow1, shE_io, shE_no, Option.isSome_some, reduceIte, if_true, if_false, Bool.false_eq_true, Nat.reduceEqDiff]
  (repeat (first | refine ⟨rfl, ?_⟩ | refine ⟨fit0, ?_⟩))
  refine ⟨⟨by decide, by decide, by decide⟩, ?_⟩
  (repeat (first | refine ⟨rfl, ?_⟩ | refine ⟨fit0, ?_⟩))
  refine callPick_io (by simp) (by simp) fun v hv a4 c4 => ?_
  obtain ⟨fr, hfr, rfl⟩ := pk (xs := [0, 0, 1, 399, 10 ^ 6]) hv
  have f0 : 0 ≤ fr ∧ fr ≤ 1000000 := by simp at hfr; omega
  simp -dsimp only [↓uSeq, ↓uNext, ↓uFor, ↓uSt, ↓uStV, ↓uAu, ↓uAp, ↓uApMv, ↓uAuN, ↓uAlias, ↓uDem, ↓uBrk, ↓uCnt, ↓uNev, ↓uRet, ↓uRetN, ↓uExp, ↓uExpP, ↓uRaise1, ↓wCallX, ↓uExpX, ↓uRetX, ↓uSetX, ↓uTryE, ↓gLtT, ↓iRngD, ↓vSortP, ↓vCat, ↓vCatV, ↓gCat, ↓uSet, ↓uSetR, ↓uIf, ↓wVar, ↓wVarV, ↓wC, ↓w1, ↓w2, ↓wT, asB, ↓wChain, ↓wNil, ↓wCons, ↓wAnd, ↓wOr, ↓wNot, ↓wAndV, ↓wOrV, ↓wNotV, ↓wIf, ↓wCallP, ↓wCallV, ↓wCa, ↓wTup, ↓wLst, ↓oNon, ↓oSom, ↓wSlice, ↓wRev, ↓vP, ↓vSh, ↓vFit, ↓vaNil, ↓vaCons, ↓vLst, ↓vTup, ↓vTup0, ↓vList, ↓vRep, ↓vSlice, ↓cSl, ↓vCallN, ↓v1, ↓vCa, ↓vIx, ↓tP, ↓vAnd, ↓vOr, ↓vNot, ↓vIf, ↓vT, ↓v2, ↓vLc, ↓gI2, ↓gI2c, ↓gLen, ↓gII, ↓gI, ↓gInt1, ↓gRep, ↓gKids, ↓gIn, ↓iLst, ↓TL.iTup, ↓TL.iRng1, ↓TL.iRng2, ↓iEn, ↓iZp, ↓hName, ↓hCons, ↓hNil, ↓hTup, ↓wSl, ↓wIsi, ↓wYes, rho0, iniE, entOf, allSh, List.replicate, List.length_cons, List.length_nil, Nat.reduceAdd, Nat.reduceSub, Nat.reduceLT, Nat.reduceLeDiff, List.cons_append, List.nil_append, List.getElem?_cons_zero, List.getElem?_cons_succ, Option.bind_some, Ent.tr, Ent.own, Ent.put, setE, killA, noAl_ow, noAl_io1, noAl_no, noAl_ro, noAl_al', killJ_cons, killJ_nil0, noRo_ow, noRo_io, noRo_no, noRo_al, mem1, notIn, noRA_ow, noRA_io, noRA_no, noRA_al, Plc, demE, List.foldl_cons, List.foldl_nil, List.map_cons, List.map_nil, List.set_cons_zero, List.set_cons_succ, endsOf, ↓outsOf, Option.map_some, plSet, TL.putAt, T.put, true_and, and_true, lst_set, lst_snoc, lm_set, lm_snoc, shOnly, shE_ow0, shE_ow1, shE_io, shE_no, Option.isSome_some, reduceIte, if_true, if_false, Bool.false_eq_true, Nat.reduceEqDiff]
  (repeat (first | refine ⟨rfl, ?_⟩ | refine ⟨fit0, ?_⟩))
  refine callPick_io (by simp) (by simp) fun v hv a5 c5 => ?_
  show R 0 v [Li [a5, b, c5]]
  have hx : ∃ x : K3, ¬ gk1 n x ∧ v = tr3 x := by
    simp only [List.mem_cons, List.not_mem_nil, or_false] at hv
    rcases hv with rfl | rfl | rfl | rfl | rfl | rfl
    · exact ⟨(0 - 1 - fr, d2, d3), fun z => by have : 0 ≤ 0 - 1 - fr := z.1.1; omega, rfl⟩
    · exact ⟨((n : Int) + fr, d2, d3), fun z => by have : (n : Int) + fr < n := z.1.2; omega, rfl⟩
    · exact ⟨(d1, 0 - 1 - fr, d3), fun z => by have : 0 ≤ 0 - 1 - fr := z.2.1.1; omega, rfl⟩
    · exact ⟨(d1, 1001 + fr, d3), fun z => by have : 1001 + fr ≤ 1000 := z.2.1.2; omega, rfl⟩
    · exact ⟨(d1, d2, 0 - 1 - fr), fun z => by have : 0 ≤ 0 - 1 - fr := z.2.2.1; omega, rfl⟩
    · exact ⟨(d1, d2, 2001 + fr), fun z => by have : 2001 + fr ≤ 2000 := z.2.2.2; omega, rfl⟩
  obtain ⟨x, hx, rfl⟩ := hx
  exact h x _ _ hx
end
end K89
set_option Elab.async false
set_option linter.all false
set_option maxRecDepth 100000
namespace K89
open PySem PySem.Spec PyProof.Rows L2 L2H TL
section
variable {P : Program} {w : World} {K : PySem.W.Frag} {mg : Str → Option Value} {base : Heap}
def refT : T := .tup [.str "refused", .lst [.tup [.str "BadNumber", .str "kinds"]]]
def W__law_asked : FnT := fun ts R => ∃ (lacks : List Int) (kinds : List K3), ts = [Li lacks, Lk kinds] ∧ lacks.length ≤ 1000 ∧ (goodK lacks.length kinds → ∀ qs, IsCheap kinds qs → R 2 (stockT qs lacks kinds) []) ∧ (¬ goodK lacks.length kinds → R 2 refT [])
set_option maxHeartbeats 4000000 in
theorem ok__law_asked {k : Nat} (G : Gs K mg) : FnOk P w K mg base CX0 (k + 5) G.g__law_asked.f G.g__law_asked.d ["lacks", "kinds"] (spT K (allSh 2) W__law_asked) := by
  refine fnT (k := k + 4) G.g__law_asked.F sc__law_asked rfl (fun X cdv A outer s H E hX hr => ?_)
  subst hX
  refine ⟨_, (ts_one (ts_tryE 2 rfl rfl sc__law_asked.nd rfl rfl (by first | exact Or.inl rfl | exact Or.inr (Or.inl rfl) | exact Or.inr (Or.inr rfl)) ⟨rfl, by decide, .inl G.ga_PensionError⟩ takesN0 (ok__law_error (k := k + 3) G) hr (by rfl) G.g__law_error.g G.g__law_error.F.kp G.g__law_error.b (fun W0 pn0 xe0 tk0 po0 => (ts_one (ts_retX (tvx_call tk0 (ok_least_stock (k := k + 0) G) hr (by rfl) G.g_least_stock.g G.g_least_stock.F.kp G.g_least_stock.b (tva_cons 0 (tv_var 0) (tva_cons 0 (tv_var 1) tva_nil)))))))), fun ts R hW hlen => ?_⟩

  obtain ⟨lacks, kinds, rfl, hl, hg, hb⟩ := hW
  simp -dsimp only [↓uSeq, ↓uNext, ↓uFor, ↓uSt, ↓uStV, ↓uAu, ↓uAp, ↓uApMv, ↓uAuN, ↓uAlias, ↓uDem, ↓uBrk, ↓uCnt, ↓uNev, ↓uRet, ↓uRetN, ↓uExp, ↓uExpP, ↓uRaise1, ↓wCallX, ↓uExpX, ↓uRetX, ↓uSetX, ↓uTryE, ↓gLtT, ↓iRngD, ↓vSortP, ↓vCat, ↓vCatV, ↓gCat, ↓uSet, ↓uSetR, ↓uIf, ↓wVar, ↓wVarV, ↓wC, ↓w1, ↓w2, ↓wT, asB, ↓wChain, ↓wNil, ↓wCons, ↓wAnd, ↓wOr, ↓wNot, ↓wAndV, ↓wOrV, ↓wNotV, ↓wIf, ↓wCallP, ↓wCallV, ↓wCa, ↓wTup, ↓wLst, ↓oNon, ↓oSom, ↓wSlice, ↓wRev, ↓vP, ↓vSh, ↓vFit, ↓vaNil, ↓vaCons, ↓vLst, ↓vTup, ↓vTup0, ↓vList, ↓vRep, ↓vSlice, ↓cSl, ↓vCallN, ↓v1, ↓vCa, ↓vIx, ↓tP, ↓vAnd, ↓vOr, ↓vNot, ↓vIf, ↓vT, ↓v2, ↓vLc, ↓gI2, ↓gI2c, ↓gLen, ↓gII, ↓gI, ↓gInt1, ↓gRep, ↓gKids, ↓gIn, ↓iLst, ↓TL.iTup, ↓TL.iRng1, ↓TL.iRng2, ↓iEn, ↓iZp, ↓hName, ↓hCons, ↓hNil, ↓hTup, ↓wSl, ↓wIsi, ↓wYes, rho0, iniE, entOf, allSh, List.replicate, List.length_cons, List.length_nil, Nat.reduceAdd, Nat.reduceSub, Nat.reduceLT, Nat.reduceLeDiff, List.cons_append, List.nil_append, List.getElem?_cons_zero, List.getElem?_cons_succ, Option.bind_some, Ent.tr, Ent.own, Ent.put, setE, killA, noAl_ow, noAl_io1, noAl_no, noAl_ro, noAl_al', killJ_cons, killJ_nil0, noRo_ow, noRo_io, noRo_no, noRo_al, mem1, notIn, noRA_ow, noRA_io, noRA_no, noRA_al, Plc, demE, List.foldl_cons, List.foldl_nil, List.map_cons, List.map_nil, List.set_cons_zero, List.set_cons_succ, endsOf, ↓outsOf, Option.map_some, plSet, TL.putAt, T.put, true_and, and_true, lst_set, lst_snoc, lm_set, lm_snoc, shOnly, shE_ow0, shE_ow1, shE_io, shE_no, Option.isSome_some, reduceIte, if_true, if_false, Bool.false_eq_true, Nat.reduceEqDiff]
  exact ⟨fit0, fit0, lacks, kinds, rfl, hl, hg, fun z => ⟨G.cp_BadNumber, .str "kinds", rfl, rfl, rfl, hb z⟩⟩
end
end K89
set_option Elab.async false
set_option linter.all false
set_option maxRecDepth 100000
namespace K89
open PySem PySem.Spec PyProof.Rows L2 L2H TL
section
variable {P : Program} {w : World} {K : PySem.W.Frag} {mg : Str → Option Value} {base : Heap}
/-! trees for _law_same -/
theorem okd_li {n : Nat} (xs : List Int) : (Li xs).okd (n + 1) = true := okds_iff.mpr fun t h => by
  obtain ⟨x, _, rfl⟩ := List.mem_map.mp h
  rfl
theorem sml_li {xs : List Int} (h : xs.length ≤ 1000000) : smlT (Li xs) = true := by
  unfold Li
  rw [smlT, Bool.and_eq_true, decide_eq_true_eq, List.length_map]
  exact ⟨h, smlTs_iff.mpr fun t h => by
    obtain ⟨x, _, rfl⟩ := List.mem_map.mp h
    rfl⟩
theorem okd_k3 {n : Nat} (x : K3) : (tr3 x).okd (n + 1) = true := okds_iff.mpr fun t h => by
  simp only [List.mem_cons, List.not_mem_nil, or_false] at h
  rcases h with rfl | rfl | rfl <;> rfl
theorem sml_k3 (x : K3) : smlT (tr3 x) = true := by
  unfold tr3
  simp [smlT, smlTs]
theorem okd_lk {n : Nat} (xs : List K3) : (Lk xs).okd (n + 2) = true := okds_iff.mpr fun t h => by
  obtain ⟨x, _, rfl⟩ := List.mem_map.mp h
  exact okd_k3 x
theorem sml_lk {xs : List K3} (h : xs.length ≤ 1000000) : smlT (Lk xs) = true := by
  rw [smlT, Bool.and_eq_true, decide_eq_true_eq, List.length_map]
  exact ⟨h, smlTs_iff.mpr fun t h => by
    obtain ⟨x, _, rfl⟩ := List.mem_map.mp h
    exact sml_k3 x⟩
theorem okd_ref {n : Nat} : refT.okd (n + 3) = true := by
  simp [refT, T.okd, T.okds]
  exact ⟨by decide +kernel, by decide +kernel, by decide +kernel⟩
theorem sml_ref : smlT refT = true := by simp [refT, smlT, smlTs]
theorem callBad_io {R : Nat → T → List Ent → Prop} {u : KDep R} {a b c m : Int} {n : Nat} {x : T} {ρ : List Ent} (hm : m = n) (h0 : 0 < n) (h1 : n ≤ 400) (h : ∀ (v : K3) a' c', ¬ gk1 n v → R 0 (tr3 v) (.io 1 (Li [a', b, c']) :: killJ [0] ρ)) :
    callAt [.io 1, .sh] [.sl 0, .tv 0] W__law_bad_kind R u [x, .int m] (.io 1 (Li [a, b, c]) :: ρ) := by
  subst hm
  unfold callAt
  rw [inT_io1]
  refine ⟨a, b, c, n, rfl, h0, h1, fun v a' c' hv => ?_⟩
  show R 0 (tr3 v) (putL [(0, Li [a', b, c'])] 0 (.io 1 (Li [a, b, c]) :: killJ [0] ρ))
  rw [putL_0]
  exact h v a' c' hv
theorem ins_k (ks : List K3) (d : Nat) (x : K3) : cutT (ks.map tr3) none (some (d : Int)) ++ [tr3 x] ++ cutT (ks.map tr3) (some (d : Int)) none = (ks.take d ++ [x] ++ ks.drop d).map tr3 := by
  rw [cutk_hi, cutk_lo, List.map_append, List.map_append]; rfl
theorem stock_cases {lacks : List Int} {kinds : List K3} {qs : List P2} (hq : IsCheap kinds qs) (hg : goodK lacks.length kinds) :
    (∃ k : Nat, stockT qs lacks kinds = .tup [.non, .int k]) ∨ ∃ am ps rs : List Int, stockT qs lacks kinds = .tup [Li am, Li ps, Li rs] ∧ am.length = kinds.length ∧ ps.length = lacks.length ∧ rs.length = kinds.length := by
  unfold stockT
  cases hgr : gr kinds qs lacks 0 (List.replicate kinds.length 0) with
  | error k => exact .inl ⟨k, rfl⟩
  | ok am => exact .inr ⟨am, _, _, rfl, (gr_lv hq (k := 0) rfl (lv_zero hg) hgr).len, by unfold pricesF; rw [List.length_map, List.length_range], by unfold rentsF; rw [List.length_map]⟩
theorem okd_stock {n : Nat} {lacks : List Int} {kinds : List K3} {qs : List P2} (hq : IsCheap kinds qs) (hg : goodK lacks.length kinds) : (stockT qs lacks kinds).okd (n + 2) = true := by
  rcases stock_cases hq hg with ⟨k, e⟩ | ⟨am, ps, rs, e, _⟩ <;> rw [e]
  · rfl
  · refine okds_iff.mpr fun t h => ?_
    simp only [List.mem_cons, List.not_mem_nil, or_false] at h
    rcases h with rfl | rfl | rfl <;> exact okd_li _
theorem sml_stock {lacks : List Int} {kinds : List K3} {qs : List P2} (hq : IsCheap kinds qs) (hg : goodK lacks.length kinds) (hl : lacks.length ≤ 1000) : smlT (stockT qs lacks kinds) = true := by
  rcases stock_cases hq hg with ⟨k, e⟩ | ⟨am, ps, rs, e, h1, h2, h3⟩ <;> rw [e]
  · rfl
  · have := hg.1
    rw [smlT, Bool.and_eq_true]
    refine ⟨rfl, smlTs_iff.mpr fun t h => ?_⟩
    simp only [List.mem_cons, List.not_mem_nil, or_false] at h
    rcases h with rfl | rfl | rfl <;> exact sml_li (by omega)
theorem rep_k (m : Nat) (y : K3) : (List.replicate m [tr3 y]).flatten = (List.replicate m y).map tr3 := by
  rw [List.map_replicate]
  induction m with
  | zero => rfl
  | succ m ih => rw [List.replicate_succ, List.flatten_cons, ih, List.replicate_succ]; rfl
theorem edge_k (ks : List K3) (d m : Nat) (y : K3) : cutT (ks.map tr3) none (some (d : Int)) ++ (List.replicate m [tr3 y]).flatten ++ cutT (ks.map tr3) (some (d : Int)) none = (ks.take d ++ List.replicate m y ++ ks.drop d).map tr3 := by
  rw [cutk_hi, cutk_lo, rep_k, List.map_append, List.map_append]
def W__law_refused : FnT := fun ts R => ∃ (a b c : Int) (lacks : List Int) (kinds : List K3), ts = [Li [a, b, c], Li lacks, Lk kinds] ∧ lacks.length ≤ 400 ∧ goodK lacks.length kinds ∧ ∀ a' c', R 0 (.bl true) [Li [a', b, c']]
set_option maxHeartbeats 4000000 in
theorem ok__law_refused {k : Nat} (G : Gs K mg) : FnOk P w K mg base CX0 (k + 7) G.g__law_refused.f G.g__law_refused.d ["pool", "lacks", "kinds"] (spT K [.io 1, .sh, .sh] W__law_refused) := by
  refine fnT (k := k + 6) G.g__law_refused.F sc__law_refused rfl (fun X cdv A outer s H E hX hr => ?_)
  subst hX
  refine ⟨_, (ts_cons (ts_set 3 sc__law_refused.nd rfl (.inl rfl) (tv_sh (tp_tup (tpa_cons tp_str (tpa_cons (tp_lst (tpa_cons (tp_tup (tpa_cons tp_str (tpa_cons tp_str tpa_nil))) tpa_nil)) tpa_nil)))))
      (ts_cons (ts_set 4 sc__law_refused.nd rfl (.inl rfl) (tv_p (tp_callB call_len_seq caT_len (by rfl) G.z_len PySem.boot_len (tpa_cons (tp_var 1) tpa_nil))))
      (ts_cons (ts_if (tvt_p (tpt_cmp op_eq opT_eqS (tp_var 4) tp_int (nomark _))) (ts_one (ts_ret (tv_p (tp_call (ok__law_same 4 (k := k + 0) G) hr (by rfl) G.g__law_same.g G.g__law_same.F.kp G.g__law_same.b (tpa_cons (tp_call (ok__law_asked (k := k + 1) G) hr (by rfl) G.g__law_asked.g G.g__law_asked.F.kp G.g__law_asked.b (tpa_cons (tp_lst tpa_nil) (tpa_cons (tp_lst (tpa_cons (tp_tup (tpa_cons tp_int (tpa_cons tp_int (tpa_cons tp_int tpa_nil)))) tpa_nil)) tpa_nil))) (tpa_cons (tp_var 3) tpa_nil)))))) ts_nil)
      (ts_cons (ts_set 5 sc__law_refused.nd rfl (.inl rfl) (tv_call (ok__law_draw (k := k + 4) G) hr (by rfl) G.g__law_draw.g G.g__law_draw.F.kp G.g__law_draw.b (tca_sl 0 (tca_tv 0 (tv_p (tp_op op_add opT_int (tp_callB call_len_seq caT_len (by rfl) G.z_len PySem.boot_len (tpa_cons (tp_var 2) tpa_nil)) tp_int)) tca_nil))))
      (ts_cons (ts_set 6 sc__law_refused.nd rfl (.inl rfl) (tv_catV (tv_catV (tv_sh (tp_slice (tp_var 2) tpo_none (tpo_some (tp_var 5)))) (tv_lst 0 (tva_cons 0 (tv_call (ok__law_bad_kind (k := k + 2) G) hr (by rfl) G.g__law_bad_kind.g G.g__law_bad_kind.F.kp G.g__law_bad_kind.b (tca_sl 0 (tca_tv 0 (tv_p (tp_var 4)) tca_nil))) tva_nil) (by simp) (by decide))) (tv_sh (tp_slice (tp_var 2) (tpo_some (tp_var 5)) tpo_none))))
      (ts_cons (ts_if (tvt_p (tpt_not (tpt_val (tp_call (ok__law_same 4 (k := k + 0) G) hr (by rfl) G.g__law_same.g G.g__law_same.F.kp G.g__law_same.b (tpa_cons (tp_call (ok__law_asked (k := k + 1) G) hr (by rfl) G.g__law_asked.g G.g__law_asked.F.kp G.g__law_asked.b (tpa_cons (tp_callTy call_list_of caT_list (by rfl) G.z_list (by decide +kernel) (tpa_cons (tp_var 1) tpa_nil)) (tpa_cons (tp_var 6) tpa_nil))) (tpa_cons (tp_var 3) tpa_nil)))))) (ts_one (ts_ret (tv_p tp_bl))) ts_nil)
      (ts_cons (ts_set 7 sc__law_refused.nd rfl (.inl rfl) (tv_sh (tp_op op_cat opT_cat (tp_op op_cat opT_cat (tp_slice (tp_var 2) tpo_none (tpo_some (tp_var 5))) (tp_op op_rep opT_rep (tp_lst (tpa_cons (tp_tup (tpa_cons (tp_op op_sub opT_int (tp_var 4) tp_int) (tpa_cons tp_int (tpa_cons tp_int tpa_nil)))) tpa_nil)) (tp_op op_sub opT_int tp_int (tp_callB call_len_seq caT_len (by rfl) G.z_len PySem.boot_len (tpa_cons (tp_var 2) tpa_nil))))) (tp_slice (tp_var 2) (tpo_some (tp_var 5)) tpo_none))))
      (ts_cons (ts_if (tvt_p (tpt_not (tpt_val (tp_call (ok__law_same 4 (k := k + 0) G) hr (by rfl) G.g__law_same.g G.g__law_same.F.kp G.g__law_same.b (tpa_cons (tp_call (ok__law_asked (k := k + 1) G) hr (by rfl) G.g__law_asked.g G.g__law_asked.F.kp G.g__law_asked.b (tpa_cons (tp_callTy call_list_of caT_list (by rfl) G.z_list (by decide +kernel) (tpa_cons (tp_var 1) tpa_nil)) (tpa_cons (tp_callTy call_list_of caT_list (by rfl) G.z_list (by decide +kernel) (tpa_cons (tp_var 7) tpa_nil)) tpa_nil))) (tpa_cons (tp_call (ok__law_answer (k := k + 4) G) hr (by rfl) G.g__law_answer.g G.g__law_answer.F.kp G.g__law_answer.b (tpa_cons (tp_var 1) (tpa_cons (tp_var 7) tpa_nil))) tpa_nil)))))) (ts_one (ts_ret (tv_p tp_bl))) ts_nil)
      (ts_one (ts_ret (tv_p (tp_call (ok__law_same 4 (k := k + 0) G) hr (by rfl) G.g__law_same.g G.g__law_same.F.kp G.g__law_same.b (tpa_cons (tp_call (ok__law_asked (k := k + 1) G) hr (by rfl) G.g__law_asked.g G.g__law_asked.F.kp G.g__law_asked.b (tpa_cons (tp_callTy call_list_of caT_list (by rfl) G.z_list (by decide +kernel) (tpa_cons (tp_var 1) tpa_nil)) (tpa_cons (tp_op op_cat opT_cat (tp_var 7) (tp_lst (tpa_cons (tp_tup (tpa_cons tp_int (tpa_cons tp_int (tpa_cons tp_int tpa_nil)))) tpa_nil))) tpa_nil))) (tpa_cons (tp_var 3) tpa_nil)))))))))))))), fun ts R hW hlen => ?_⟩

  obtain ⟨a, b, c, lacks, kinds, rfl, hl, hg, h⟩ := hW
  simp -dsimp only [↓uSeq, ↓uNext, ↓uFor, ↓uSt, ↓uStV, ↓uAu, ↓uAp, ↓uApMv, ↓uAuN, ↓uAlias, ↓uDem, ↓uBrk, ↓uCnt, ↓uNev, ↓uRet, ↓uRetN, ↓uExp, ↓uExpP, ↓uRaise1, ↓wCallX, ↓uExpX, ↓uRetX, ↓uSetX, ↓uTryE, ↓gLtT, ↓iRngD, ↓vSortP, ↓vCat, ↓vCatV, ↓gCat, ↓uSet, ↓uSetR, ↓uIf, ↓wVar, ↓wVarV, ↓wC, ↓w1, ↓w2, ↓wT, asB, ↓wChain, ↓wNil, ↓wCons, ↓wAnd, ↓wOr, ↓wNot, ↓wAndV, ↓wOrV, ↓wNotV, ↓wIf, ↓wCallP, ↓wCallV, ↓wCa, ↓wTup, ↓wLst, ↓oNon, ↓oSom, ↓wSlice, ↓wRev, ↓vP, ↓vSh, ↓vFit, ↓vaNil, ↓vaCons, ↓vLst, ↓vTup, ↓vTup0, ↓vList, ↓vRep, ↓vSlice, ↓cSl, ↓vCallN, ↓v1, ↓vCa, ↓vIx, ↓tP, ↓vAnd, ↓vOr, ↓vNot, ↓vIf, ↓vT, ↓v2, ↓vLc, ↓gI2, ↓gI2c, ↓gLen, ↓gII, ↓gI, ↓gInt1, ↓gRep, ↓gKids, ↓gIn, ↓iLst, ↓TL.iTup, ↓TL.iRng1, ↓TL.iRng2, ↓iEn, ↓iZp, ↓hName, ↓hCons, ↓hNil, ↓hTup, ↓wSl, ↓wIsi, ↓wYes, rho0, iniE, entOf, allSh, List.replicate, List.length_cons, List.length_nil, Nat.reduceAdd, Nat.reduceSub, Nat.reduceLT, Nat.reduceLeDiff, List.cons_append, List.nil_append, List.getElem?_cons_zero, List.getElem?_cons_succ, Option.bind_some, Ent.tr, Ent.own, Ent.put, setE, killA, noAl_ow, noAl_io1, noAl_no, noAl_ro, noAl_al', killJ_cons, killJ_nil0, noRo_ow, noRo_io, noRo_no, noRo_al, mem1, notIn, noRA_ow, noRA_io, noRA_no, noRA_al, Plc, demE, List.foldl_cons, List.foldl_nil, List.map_cons, List.map_nil, List.set_cons_zero, List.set_cons_succ, endsOf, ↓outsOf, Option.map_some, plSet, TL.putAt, T.put, true_and, and_true, lst_set, lst_snoc, lm_set, lm_snoc, shOnly, shE_ow0, shE_ow1, shE_io, shE_no, Option.isSome_some, reduceIte, if_true, if_false, Bool.false_eq_true, Nat.reduceEqDiff]
  refine ⟨rfl, ifS (fun z => ?_) fun z => ?_⟩
  · refine ⟨[], [(0, 1, 1)], rfl, by simp, fun z => ?_, fun _ => ⟨refT, rfl, by decide, okd_ref, sml_ref, rfl, h _ _⟩⟩
    have := (z.2 _ List.mem_cons_self).1.2
    exact absurd this (by decide)
  have hn0 : 0 < lacks.length := by
    have : ¬ (((lacks.map T.int).length : Int) = 0) := fun q => z (decide_eq_true q)
    rw [List.length_map] at this
    omega
  have hkl := hg.1
  refine ⟨rfl, fit0, callDraw_io (by omega) (by rw [List.length_map]; omega) fun d1 a1 c1 l1 u1 => ?_⟩
  obtain ⟨d, rfl⟩ := Int.eq_ofNat_of_zero_le l1
  simp -dsimp only [↓uSeq, ↓uNext, ↓uFor, ↓uSt, ↓uStV, ↓uAu, ↓uAp, ↓uApMv, ↓uAuN, ↓uAlias, ↓uDem, ↓uBrk, ↓uCnt, ↓uNev, ↓uRet, ↓uRetN, ↓uExp, ↓uExpP, ↓uRaise1, ↓wCallX, ↓uExpX, ↓uRetX, ↓uSetX, ↓uTryE, ↓gLtT, ↓iRngD, ↓vSortP, ↓vCat, ↓vCatV, ↓gCat, ↓uSet, ↓uSetR, ↓uIf, ↓wVar, ↓wVarV, ↓wC, ↓w1, ↓w2, ↓wT, asB, ↓wChain, ↓wNil, ↓wCons, ↓wAnd, ↓wOr, ↓wNot, ↓wAndV, ↓wOrV, ↓wNotV, ↓wIf, ↓wCallP, ↓wCallV, ↓wCa, ↓wTup, ↓wLst, ↓oNon, ↓oSom, ↓wSlice, ↓wRev, ↓vP, ↓vSh, ↓vFit, ↓vaNil, ↓vaCons, ↓vLst, ↓vTup, ↓vTup0, ↓vList, ↓vRep, ↓vSlice, ↓cSl, ↓vCallN, ↓v1, ↓vCa, ↓vIx, ↓tP, ↓vAnd, ↓vOr, ↓vNot, ↓vIf, ↓vT, ↓v2, ↓vLc, ↓gI2, ↓gI2c, ↓gLen, ↓gII, ↓gI, ↓gInt1, ↓gRep, ↓gKids, ↓gIn, ↓iLst, ↓TL.iTup, ↓TL.iRng1, ↓TL.iRng2, ↓iEn, ↓iZp, ↓hName, ↓hCons, ↓hNil, ↓hTup, ↓wSl, ↓wIsi, ↓wYes, rho0, iniE, entOf, allSh, List.replicate, List.length_cons, List.length_nil, Nat.reduceAdd, Nat.reduceSub, Nat.reduceLT, Nat.reduceLeDiff, List.cons_append, List.nil_append, List.getElem?_cons_zero, List.getElem?_cons_succ, Option.bind_some, Ent.tr, Ent.own, Ent.put, setE, killA, noAl_ow, noAl_io1, noAl_no, noAl_ro, noAl_al', killJ_cons, killJ_nil0, noRo_ow, noRo_io, noRo_no, noRo_al, mem1, notIn, noRA_ow, noRA_io, noRA_no, noRA_al, Plc, demE, List.foldl_cons, List.foldl_nil, List.map_cons, List.map_nil, List.set_cons_zero, List.set_cons_succ, endsOf, ↓outsOf, Option.map_some, plSet, TL.putAt, T.put, true_and, and_true, lst_set, lst_snoc, lm_set, lm_snoc, shOnly, shE_ow0, shE_ow1, shE_io, shE_no, Option.isSome_some, reduceIte, if_true, if_false, Bool.false_eq_true, Nat.reduceEqDiff]
  refine ⟨rfl, fit0, callBad_io (by rw [List.length_map]) hn0 hl fun x a2 c2 hx => ?_⟩
  simp -dsimp only [↓uSeq, ↓uNext, ↓uFor, ↓uSt, ↓uStV, ↓uAu, ↓uAp, ↓uApMv, ↓uAuN, ↓uAlias, ↓uDem, ↓uBrk, ↓uCnt, ↓uNev, ↓uRet, ↓uRetN, ↓uExp, ↓uExpP, ↓uRaise1, ↓wCallX, ↓uExpX, ↓uRetX, ↓uSetX, ↓uTryE, ↓gLtT, ↓iRngD, ↓vSortP, ↓vCat, ↓vCatV, ↓gCat, ↓uSet, ↓uSetR, ↓uIf, ↓wVar, ↓wVarV, ↓wC, ↓w1, ↓w2, ↓wT, asB, ↓wChain, ↓wNil, ↓wCons, ↓wAnd, ↓wOr, ↓wNot, ↓wAndV, ↓wOrV, ↓wNotV, ↓wIf, ↓wCallP, ↓wCallV, ↓wCa, ↓wTup, ↓wLst, ↓oNon, ↓oSom, ↓wSlice, ↓wRev, ↓vP, ↓vSh, ↓vFit, ↓vaNil, ↓vaCons, ↓vLst, ↓vTup, ↓vTup0, ↓vList, ↓vRep, ↓vSlice, ↓cSl, ↓vCallN, ↓v1, ↓vCa, ↓vIx, ↓tP, ↓vAnd, ↓vOr, ↓vNot, ↓vIf, ↓vT, ↓v2, ↓vLc, ↓gI2, ↓gI2c, ↓gLen, ↓gII, ↓gI, ↓gInt1, ↓gRep, ↓gKids, ↓gIn, ↓iLst, ↓TL.iTup, ↓TL.iRng1, ↓TL.iRng2, ↓iEn, ↓iZp, ↓hName, ↓hCons, ↓hNil, ↓hTup, ↓wSl, ↓wIsi, ↓wYes, rho0, iniE, entOf, allSh, List.replicate, List.length_cons, List.length_nil, Nat.reduceAdd, Nat.reduceSub, Nat.reduceLT, Nat.reduceLeDiff, List.cons_append, List.nil_append, List.getElem?_cons_zero, List.getElem?_cons_succ, Option.bind_some, Ent.tr, Ent.own, Ent.put, setE, killA, noAl_ow, noAl_io1, noAl_no, noAl_ro, noAl_al', killJ_cons, killJ_nil0, noRo_ow, noRo_io, noRo_no, noRo_al, mem1, notIn, noRA_ow, noRA_io, noRA_no, noRA_al, Plc, demE, List.foldl_cons, List.foldl_nil, List.map_cons, List.map_nil, List.set_cons_zero, List.set_cons_succ, endsOf, ↓outsOf, Option.map_some, plSet, TL.putAt, T.put, true_and, and_true, lst_set, lst_snoc, lm_set, lm_snoc, shOnly, shE_ow0, shE_ow1, shE_io, shE_no, Option.isSome_some, reduceIte, if_true, if_false, Bool.false_eq_true, Nat.reduceEqDiff]
  have il : ∀ y : K3, (cutT (kinds.map tr3) none (some (d : Int)) ++ [tr3 y]).length + (cutT (kinds.map tr3) (some (d : Int)) none).length ≤ 1000000 := fun y => by
    rw [← List.length_append, ins_k, List.length_map, List.length_append, List.length_append, List.length_take, List.length_drop, List.length_singleton]; omega
  have f1 : ∀ y : K3, T.flats (cutT (kinds.map tr3) none (some (d : Int)) ++ [tr3 y]) = true := fun y => by
    have : cutT (kinds.map tr3) none (some (d : Int)) ++ [tr3 y] = (kinds.take d ++ [y]).map tr3 := by rw [cutk_hi, List.map_append]; rfl
    rw [this]; exact flats_k _
  refine ⟨fit0, by rw [cutk_hi, List.length_map, List.length_take]; omega, f1 x, il x, by rw [ins_k]; exact flats_k _, ?_⟩
  rw [ins_k]
  refine ⟨lacks, _, rfl, by omega, fun z => absurd (z.2 x (List.mem_append_left _ (List.mem_append_right _ (List.mem_singleton.mpr rfl)))) hx, fun _ => ⟨refT, rfl, by decide, okd_ref, sml_ref, ?_⟩⟩
  simp -dsimp only [↓uSeq, ↓uNext, ↓uFor, ↓uSt, ↓uStV, ↓uAu, ↓uAp, ↓uApMv, ↓uAuN, ↓uAlias, ↓uDem, ↓uBrk, ↓uCnt, ↓uNev, ↓uRet, ↓uRetN, ↓uExp, ↓uExpP, ↓uRaise1, ↓wCallX, ↓uExpX, ↓uRetX, ↓uSetX, ↓uTryE, ↓gLtT, ↓iRngD, ↓vSortP, ↓vCat, ↓vCatV, ↓gCat, ↓uSet, ↓uSetR, ↓uIf, ↓wVar, ↓wVarV, ↓wC, ↓w1, ↓w2, ↓wT, asB, ↓wChain, ↓wNil, ↓wCons, ↓wAnd, ↓wOr, ↓wNot, ↓wAndV, ↓wOrV, ↓wNotV, ↓wIf, ↓wCallP, ↓wCallV, ↓wCa, ↓wTup, ↓wLst, ↓oNon, ↓oSom, ↓wSlice, ↓wRev, ↓vP, ↓vSh, ↓vFit, ↓vaNil, ↓vaCons, ↓vLst, ↓vTup, ↓vTup0, ↓vList, ↓vRep, ↓vSlice, ↓cSl, ↓vCallN, ↓v1, ↓vCa, ↓vIx, ↓tP, ↓vAnd, ↓vOr, ↓vNot, ↓vIf, ↓vT, ↓v2, ↓vLc, ↓gI2, ↓gI2c, ↓gLen, ↓gII, ↓gI, ↓gInt1, ↓gRep, ↓gKids, ↓gIn, ↓iLst, ↓TL.iTup, ↓TL.iRng1, ↓TL.iRng2, ↓iEn, ↓iZp, ↓hName, ↓hCons, ↓hNil, ↓hTup, ↓wSl, ↓wIsi, ↓wYes, rho0, iniE, entOf, allSh, List.replicate, List.length_cons, List.length_nil, Nat.reduceAdd, Nat.reduceSub, Nat.reduceLT, Nat.reduceLeDiff, List.cons_append, List.nil_append, List.getElem?_cons_zero, List.getElem?_cons_succ, Option.bind_some, Ent.tr, Ent.own, Ent.put, setE, killA, noAl_ow, noAl_io1, noAl_no, noAl_ro, noAl_al', killJ_cons, killJ_nil0, noRo_ow, noRo_io, noRo_no, noRo_al, mem1, notIn, noRA_ow, noRA_io, noRA_no, noRA_al, Plc, demE, List.foldl_cons, List.foldl_nil, List.map_cons, List.map_nil, List.set_cons_zero, List.set_cons_succ, endsOf, ↓outsOf, Option.map_some, plSet, TL.putAt, T.put, true_and, and_true, lst_set, lst_snoc, lm_set, lm_snoc, shOnly, shE_ow0, shE_ow1, shE_io, shE_no, Option.isSome_some, reduceIte, if_true, if_false, Bool.false_eq_true, Nat.reduceEqDiff]
  refine ifF (by decide) ?_
  have hsz : ((lacks.map T.int).length : Int) = lacks.length := by rw [List.length_map]
  have hkz : (20 - ((kinds.map tr3).length : Int)).toNat = 20 - kinds.length := by rw [List.length_map]; omega
  rw [hkz, hsz]
  have ek := edge_k kinds d (20 - kinds.length) ((lacks.length : Int) - 1, 1000, 2000)
  have el : (kinds.take d ++ List.replicate (20 - kinds.length) (((lacks.length : Int) - 1, 1000, 2000) : K3) ++ kinds.drop d).length = 20 := by
    rw [List.length_append, List.length_append, List.length_take, List.length_drop, List.length_replicate]; omega
  have eg : goodK lacks.length (kinds.take d ++ List.replicate (20 - kinds.length) (((lacks.length : Int) - 1, 1000, 2000) : K3) ++ kinds.drop d) := ⟨by omega, fun x hx => by
    rcases List.mem_append.mp hx with hx | hx
    · rcases List.mem_append.mp hx with hx | hx
      · exact hg.2 x (List.mem_of_mem_take hx)
      · rw [(List.mem_replicate.mp hx).2]
        exact ⟨⟨by show 0 ≤ (lacks.length : Int) - 1; omega, by show (lacks.length : Int) - 1 < lacks.length; omega⟩, ⟨by show (0 : Int) ≤ 1000; decide, by show (1000 : Int) ≤ 1000; decide⟩, by show (0 : Int) ≤ 2000; decide, by show (2000 : Int) ≤ 2000; decide⟩
    · exact hg.2 x (List.mem_of_mem_drop hx)⟩
  generalize kinds.take d ++ List.replicate (20 - kinds.length) (((lacks.length : Int) - 1, 1000, 2000) : K3) ++ kinds.drop d = edge at ek el eg
  have rl : (List.replicate (20 - kinds.length) [T.tup [T.int ((lacks.length : Int) - 1), T.int 1000, T.int 2000]]).flatten.length ≤ 20 := by
    have := rep_k (20 - kinds.length) ((lacks.length : Int) - 1, 1000, 2000)
    rw [show T.tup [T.int ((lacks.length : Int) - 1), T.int 1000, T.int 2000] = tr3 ((lacks.length : Int) - 1, 1000, 2000) from rfl, this, List.length_map, List.length_replicate]; omega
  obtain ⟨qs, hqs⟩ := cheap_ex edge
  have kl : (kinds.map tr3).length = kinds.length := List.length_map _
  simp only [show T.tup [T.int ((lacks.length : Int) - 1), T.int 1000, T.int 2000] = tr3 ((lacks.length : Int) - 1, 1000, 2000) from rfl, ek]
  rw [show T.tup [T.int ((lacks.length : Int) - 1), T.int 1000, T.int 2000] = tr3 ((lacks.length : Int) - 1, 1000, 2000) from rfl] at rl
  refine ⟨by omega, by omega, by omega, ?_, by rw [← List.length_append, ek, List.length_map]; omega, lacks, edge, rfl, by omega, fun _ qs' hq' => ?_, fun z => absurd eg z⟩
  · rw [cutk_hi, List.length_map, List.length_take]; omega
  refine ⟨lacks, edge, qs, rfl, by omega, eg, hqs, ?_⟩
  rw [cheap_one hq' hqs]
  refine ⟨_, rfl, by decide, okd_stock hqs eg, sml_stock hqs eg (by omega), ifF (by decide) ⟨by rw [List.length_map]; omega, lacks, edge ++ [(0, 0, 0)], ?_, by omega, fun z => ?_, fun _ => ⟨refT, rfl, by decide, okd_ref, sml_ref, rfl, h _ _⟩⟩⟩
  · rw [Lk, List.map_append]; rfl
  · have := z.1
    rw [List.length_append, List.length_singleton] at this
    omega
end
end K89
set_option Elab.async false
set_option linter.all false
set_option maxRecDepth 100000
namespace K89
open PySem PySem.Spec PyProof.Rows L2 L2H TL
section
variable {P : Program} {w : World} {K : PySem.W.Frag} {mg : Str → Option Value} {base : Heap}
theorem callLacks {R : Nat → T → List Ent → Prop} {u : KDep R} {a b c : Int} {ρ : List Ent} (h : ∀ xs : List Int, xs.length ≤ 400 → R 1 (Li xs) (killJ [] ρ)) :
    callAt [.io 1] [.tv 1] W__law_drawn_lacks R u [Li [a, b, c]] ρ := by
  have e1 : inT ρ [.io 1] [.tv 1] [Li [a, b, c]] = some [Li [a, b, c]] := by simp [inT]
  unfold callAt
  rw [e1]
  refine ⟨a, b, c, rfl, fun m a' c' hm => ?_⟩
  show R 1 (Li m) (putL [] 0 (killJ [] ρ))
  rw [putL_e]
  exact h m hm
theorem callKinds {R : Nat → T → List Ent → Prop} {u : KDep R} {a b c m : Int} {n : Nat} {ρ : List Ent} (hm : m = n) (h0 : n ≤ 400) (h : ∀ ks : List K3, goodK n ks → R 1 (Lk ks) (killJ [] ρ)) :
    callAt [.io 1, .sh] [.tv 1, .tv 0] W__law_drawn_kinds R u [Li [a, b, c], .int m] ρ := by
  subst hm
  have e1 : inT ρ [.io 1, .sh] [.tv 1, .tv 0] [Li [a, b, c], .int n] = some [Li [a, b, c], .int n] := by simp [inT]
  unfold callAt
  rw [e1]
  refine ⟨a, b, c, n, rfl, h0, fun m a' c' hm => ?_⟩
  show R 1 (Lk m) (putL [] 0 (killJ [] ρ))
  rw [putL_e]
  exact h m hm
theorem gpr0 {a b : T} {R : T → Prop} : gIx (T.lst [a, b]) (.int 0) R = R a := rfl
theorem gpr1 {a b : T} {R : T → Prop} : gIx (T.lst [a, b]) (.int 1) R = R b := rfl
theorem callDraw_sl {R : Nat → T → List Ent → Prop} {u : KDep R} {i : Nat} {a b c m : Int} {x : T} {ρ : List Ent} (hρ : ρ[i]? = some (.ow 1 (Li [a, b, c]))) (h0 : 0 < m) (h1 : m < 9223372036854775808) (h : ∀ v a' c', 0 ≤ v → v < m → R 0 (.int v) (putL [(i, Li [a', b, c'])] 0 (killJ [i] ρ))) :
    callAt [.io 1, .sh] [.sl i, .tv 0] W__law_draw R u [x, .int m] ρ := by
  have e1 : inT ρ [.io 1, .sh] [.sl i, .tv 0] [x, .int m] = some [Li [a, b, c], .int m] := by simp [inT, hρ, Ent.own]
  unfold callAt
  rw [e1]
  exact ⟨a, b, c, m, rfl, h0, h1, h⟩
theorem callRef_sl {R : Nat → T → List Ent → Prop} {u : KDep R} {i : Nat} {a b c : Int} {x : T} {ρ : List Ent} {lacks : List Int} {kinds : List K3} (hρ : ρ[i]? = some (.ow 1 (Li [a, b, c]))) (h0 : lacks.length ≤ 400) (h1 : goodK lacks.length kinds) (h : ∀ a' c', R 0 (.bl true) (putL [(i, Li [a', b, c'])] 0 (killJ [i] ρ))) :
    callAt [.io 1, .sh, .sh] [.sl i, .tv 0, .tv 0] W__law_refused R u [x, Li lacks, Lk kinds] ρ := by
  have e1 : inT ρ [.io 1, .sh, .sh] [.sl i, .tv 0, .tv 0] [x, Li lacks, Lk kinds] = some [Li [a, b, c], Li lacks, Lk kinds] := by simp [inT, hρ, Ent.own]
  unfold callAt
  rw [e1]
  exact ⟨a, b, c, lacks, kinds, rfl, h0, h1, h⟩
def W_law : FnT := fun ts R => ∃ ns : List Int, ts = [.scr ns] ∧ R 0 (.bl true) []
set_option maxHeartbeats 4000000 in
theorem ok_law {k : Nat} (G : Gs K mg) : FnOk P w K mg base CX0 (k + 8) G.g_law.f G.g_law.d ["script"] (spT K (allSh 1) W_law) := by
  refine fnT (k := k + 7) G.g_law.F sc_law rfl (fun X cdv A outer s H E hX hr => ?_)
  subst hX
  refine ⟨_, (ts_cons (ts_set 1 sc_law.nd rfl (.inl rfl) (tv_call (ok__law_drawn_lacks (k := k + 3) G) hr (by rfl) G.g__law_drawn_lacks.g G.g__law_drawn_lacks.F.kp G.g__law_drawn_lacks.b (tca_tv 1 (tv_callN (ok__law_pool (k := k + 6) G) hr (by rfl) G.g__law_pool.g G.g__law_pool.F.kp G.g__law_pool.b (tpa_cons (tp_var 0) (tpa_cons tp_int (tpa_cons tp_int tpa_nil)))) tca_nil)))
      (ts_cons (ts_set 2 sc_law.nd rfl (.inl rfl) (tv_call (ok__law_drawn_kinds (k := k + 3) G) hr (by rfl) G.g__law_drawn_kinds.g G.g__law_drawn_kinds.F.kp G.g__law_drawn_kinds.b (tca_tv 1 (tv_callN (ok__law_pool (k := k + 6) G) hr (by rfl) G.g__law_pool.g G.g__law_pool.F.kp G.g__law_pool.b (tpa_cons (tp_var 0) (tpa_cons tp_int (tpa_cons tp_int tpa_nil)))) (tca_tv 0 (tv_p (tp_callB call_len_seq caT_len (by rfl) G.z_len PySem.boot_len (tpa_cons (tp_var 1) tpa_nil))) tca_nil))))
      (ts_cons (ts1_dem [1, 2] (ts_set 3 sc_law.nd rfl (.inl rfl) (tv_callN (ok__law_answer (k := k + 5) G) hr (by rfl) G.g__law_answer.g G.g__law_answer.F.kp G.g__law_answer.b (tpa_cons (tp_var 1) (tpa_cons (tp_var 2) tpa_nil)))))
      (ts_cons (ts_set 4 sc_law.nd rfl (.inl rfl) (tv_lst 1 (tva_cons 1 (tv_list (by rfl) G.z_list (tpa_cons (tp_var 1) tpa_nil)) (tva_cons 1 (tv_list (by rfl) G.z_list (tpa_cons (tp_var 2) tpa_nil)) tva_nil)) (by simp) (by decide)))
      (ts_cons (ts1_dem [4] (ts_set 5 sc_law.nd rfl (.inl rfl) (tv_callN (ok__law_asked (k := k + 2) G) hr (by rfl) G.g__law_asked.g G.g__law_asked.F.kp G.g__law_asked.b (tpa_cons (tp_ix (tp_var 4) tp_int (fun _ _ => rfl)) (tpa_cons (tp_ix (tp_var 4) tp_int (fun _ _ => rfl)) tpa_nil)))))
      (ts_cons (ts1_dem [3] (ts_if (tvt_p (tpt_not (tpt_val (tp_call (ok__law_same 4 (k := k + 1) G) hr (by rfl) G.g__law_same.g G.g__law_same.F.kp G.g__law_same.b (tpa_cons (tp_var 5) (tpa_cons (tp_var 3) tpa_nil)))))) (ts_one (ts_ret (tv_p tp_bl))) ts_nil))
      (ts_cons (ts_if (tvt_p (tpt_not (tpt_val (tp_call (ok__law_same 4 (k := k + 1) G) hr (by rfl) G.g__law_same.g G.g__law_same.F.kp G.g__law_same.b (tpa_cons (tp_var 4) (tpa_cons (tp_lst (tpa_cons (tp_var 1) (tpa_cons (tp_var 2) tpa_nil))) tpa_nil)))))) (ts_one (ts_ret (tv_p tp_bl))) ts_nil)
      (ts_cons (ts_if (tvt_p (tpt_cmp op_eq opT_eqS (tp_callB call_len_seq caT_len (by rfl) G.z_len PySem.boot_len (tpa_cons (tp_var 5) tpa_nil)) tp_int (nomark _))) (ts_one (ts_forTp 5 8 PassesOwn.never rfl sc_law.nd rfl (.inl rfl) (ts_cons (ts_app 8 (tv_p tp_int))
      (ts_one (ts_store 8 (tv_p (tp_op op_add opT_int (tp_ix (tp_var 8) tp_int (fun _ _ => rfl)) tp_int)) tp_int))))) ts_nil)
      (ts_cons (ts_setLc (i := 6) (hc := rfl) (hN := sc_law.nd) (hy := rfl) (hyl := rfl) (hsw := sw_true rfl rfl rfl (by decide +kernel)) (own := [("lack", 9)]) (k := 0) (js := [9]) (hi := (ti_lst (tv_var 1))) (ok := (blkOk_by (N := ["script", "lacks", "kinds", "due", "handed", "told", "less", "pool", "row", "lack"]) (sc := defScope s_law) (by decide +kernel))) (hg := fun _ _ _ _ _ => (tg_name 9 sc_law.nd rfl (.inl rfl))) (ht := fun _ _ _ _ _ => tvts_nil) (he := fun _ _ _ _ _ => (tv_p (tp_callB (call_max2 rfl) caT_ii (by rfl) G.z_max (by decide +kernel) (tpa_cons (tp_op op_sub opT_int (tp_var 9) tp_int) (tpa_cons (tp_op op_sub opT_int tp_int (tp_op op_pow opT_intc tp_int tp_int)) tpa_nil))))) (hj := by decide))
      (ts_cons (ts_if (tvt_p (tpt_not (tpt_val (tp_call (ok__law_same 4 (k := k + 1) G) hr (by rfl) G.g__law_same.g G.g__law_same.F.kp G.g__law_same.b (tpa_cons (tp_call (ok__law_asked (k := k + 2) G) hr (by rfl) G.g__law_asked.g G.g__law_asked.F.kp G.g__law_asked.b (tpa_cons (tp_callTy call_list_of caT_list (by rfl) G.z_list (by decide +kernel) (tpa_cons (tp_var 6) tpa_nil)) (tpa_cons (tp_callTy call_list_of caT_list (by rfl) G.z_list (by decide +kernel) (tpa_cons (tp_var 2) tpa_nil)) tpa_nil))) (tpa_cons (tp_call (ok__law_answer (k := k + 5) G) hr (by rfl) G.g__law_answer.g G.g__law_answer.F.kp G.g__law_answer.b (tpa_cons (tp_var 6) (tpa_cons (tp_var 2) tpa_nil))) tpa_nil)))))) (ts_one (ts_ret (tv_p tp_bl))) ts_nil)
      (ts_cons (ts_if (tvt_p (tpt_not (tpt_val (tp_call (ok__law_same 4 (k := k + 1) G) hr (by rfl) G.g__law_same.g G.g__law_same.F.kp G.g__law_same.b (tpa_cons (tp_call (ok__law_asked (k := k + 2) G) hr (by rfl) G.g__law_asked.g G.g__law_asked.F.kp G.g__law_asked.b (tpa_cons (tp_ix (tp_var 4) tp_int (fun _ _ => rfl)) (tpa_cons (tp_ix (tp_var 4) tp_int (fun _ _ => rfl)) tpa_nil))) (tpa_cons (tp_var 3) tpa_nil)))))) (ts_one (ts_ret (tv_p tp_bl))) ts_nil)
      (ts_cons (ts_set 7 sc_law.nd rfl (.inl rfl) (tv_callN (ok__law_pool (k := k + 6) G) hr (by rfl) G.g__law_pool.g G.g__law_pool.F.kp G.g__law_pool.b (tpa_cons (tp_var 0) (tpa_cons tp_int (tpa_cons tp_int tpa_nil)))))
      (ts_cons (ts_if (tvt_cmp op_eq opT_eqS (tv_call (ok__law_draw (k := k + 5) G) hr (by rfl) G.g__law_draw.g G.g__law_draw.F.kp G.g__law_draw.b (tca_sl 7 (tca_tv 0 (tv_p tp_int) tca_nil))) (tv_p tp_int) (nomark _)) (ts_one (ts_ret (tv_p tp_bl))) ts_nil)
      (ts_one (ts_ret (tv_call (ok__law_refused (k := k + 0) G) hr (by rfl) G.g__law_refused.g G.g__law_refused.F.kp G.g__law_refused.b (tca_sl 7 (tca_tv 0 (tv_var 1) (tca_tv 0 (tv_var 2) tca_nil))))))))))))))))))), fun ts R hW hlen => ?_⟩

  obtain ⟨ns, rfl, h⟩ := hW
  simp -dsimp only [↓uSeq, ↓uNext, ↓uFor, ↓uSt, ↓uStV, ↓uAu, ↓uAp, ↓uApMv, ↓uAuN, ↓uAlias, ↓uDem, ↓uBrk, ↓uCnt, ↓uNev, ↓uRet, ↓uRetN, ↓uExp, ↓uExpP, ↓uRaise1, ↓wCallX, ↓uExpX, ↓uRetX, ↓uSetX, ↓uTryE, ↓gLtT, ↓iRngD, ↓vSortP, ↓vCat, ↓vCatV, ↓gCat, ↓uSet, ↓uSetR, ↓uIf, ↓wVar, ↓wVarV, ↓wC, ↓w1, ↓w2, ↓wT, asB, ↓wChain, ↓wNil, ↓wCons, ↓wAnd, ↓wOr, ↓wNot, ↓wAndV, ↓wOrV, ↓wNotV, ↓wIf, ↓wCallP, ↓wCallV, ↓wCa, ↓wTup, ↓wLst, ↓oNon, ↓oSom, ↓wSlice, ↓wRev, ↓vP, ↓vSh, ↓vFit, ↓vaNil, ↓vaCons, ↓vLst, ↓vTup, ↓vTup0, ↓vList, ↓vRep, ↓vSlice, ↓cSl, ↓vCallN, ↓v1, ↓vCa, ↓vIx, ↓tP, ↓vAnd, ↓vOr, ↓vNot, ↓vIf, ↓vT, ↓v2, ↓vLc, ↓gI2, ↓gI2c, ↓gLen, ↓gII, ↓gI, ↓gInt1, ↓gRep, ↓gKids, ↓gIn, ↓iLst, ↓TL.iTup, ↓TL.iRng1, ↓TL.iRng2, ↓iEn, ↓iZp, ↓hName, ↓hCons, ↓hNil, ↓hTup, ↓wSl, ↓wIsi, ↓wYes, rho0, iniE, entOf, allSh, List.replicate, List.length_cons, List.length_nil, Nat.reduceAdd, Nat.reduceSub, Nat.reduceLT, Nat.reduceLeDiff, List.cons_append, List.nil_append, List.getElem?_cons_zero, List.getElem?_cons_succ, Option.bind_some, Ent.tr, Ent.own, Ent.put, setE, killA, noAl_ow, noAl_io1, noAl_no, noAl_ro, noAl_al', killJ_cons, killJ_nil0, noRo_ow, noRo_io, noRo_no, noRo_al, mem1, notIn, noRA_ow, noRA_io, noRA_no, noRA_al, Plc, demE, List.foldl_cons, List.foldl_nil, List.map_cons, List.map_nil, List.set_cons_zero, List.set_cons_succ, endsOf, ↓outsOf, Option.map_some, plSet, TL.putAt, T.put, true_and, and_true, lst_set, lst_snoc, lm_set, lm_snoc, shOnly, shE_ow0, shE_ow1, shE_io, shE_no, Option.isSome_some, reduceIte, if_true, if_false, Bool.false_eq_true, Nat.reduceEqDiff]
  refine ⟨ns, 0, 87, rfl, by decide, fun a b => ?_⟩
  simp -dsimp only [↓uSeq, ↓uNext, ↓uFor, ↓uSt, ↓uStV, ↓uAu, ↓uAp, ↓uApMv, ↓uAuN, ↓uAlias, ↓uDem, ↓uBrk, ↓uCnt, ↓uNev, ↓uRet, ↓uRetN, ↓uExp, ↓uExpP, ↓uRaise1, ↓wCallX, ↓uExpX, ↓uRetX, ↓uSetX, ↓uTryE, ↓gLtT, ↓iRngD, ↓vSortP, ↓vCat, ↓vCatV, ↓gCat, ↓uSet, ↓uSetR, ↓uIf, ↓wVar, ↓wVarV, ↓wC, ↓w1, ↓w2, ↓wT, asB, ↓wChain, ↓wNil, ↓wCons, ↓wAnd, ↓wOr, ↓wNot, ↓wAndV, ↓wOrV, ↓wNotV, ↓wIf, ↓wCallP, ↓wCallV, ↓wCa, ↓wTup, ↓wLst, ↓oNon, ↓oSom, ↓wSlice, ↓wRev, ↓vP, ↓vSh, ↓vFit, ↓vaNil, ↓vaCons, ↓vLst, ↓vTup, ↓vTup0, ↓vList, ↓vRep, ↓vSlice, ↓cSl, ↓vCallN, ↓v1, ↓vCa, ↓vIx, ↓tP, ↓vAnd, ↓vOr, ↓vNot, ↓vIf, ↓vT, ↓v2, ↓vLc, ↓gI2, ↓gI2c, ↓gLen, ↓gII, ↓gI, ↓gInt1, ↓gRep, ↓gKids, ↓gIn, ↓iLst, ↓TL.iTup, ↓TL.iRng1, ↓TL.iRng2, ↓iEn, ↓iZp, ↓hName, ↓hCons, ↓hNil, ↓hTup, ↓wSl, ↓wIsi, ↓wYes, rho0, iniE, entOf, allSh, List.replicate, List.length_cons, List.length_nil, Nat.reduceAdd, Nat.reduceSub, Nat.reduceLT, Nat.reduceLeDiff, List.cons_append, List.nil_append, List.getElem?_cons_zero, List.getElem?_cons_succ, Option.bind_some, Ent.tr, Ent.own, Ent.put, setE, killA, noAl_ow, noAl_io1, noAl_no, noAl_ro, noAl_al', killJ_cons, killJ_nil0, noRo_ow, noRo_io, noRo_no, noRo_al, mem1, notIn, noRA_ow, noRA_io, noRA_no, noRA_al, Plc, demE, List.foldl_cons, List.foldl_nil, List.map_cons, List.map_nil, List.set_cons_zero, List.set_cons_succ, endsOf, ↓outsOf, Option.map_some, plSet, TL.putAt, T.put, true_and, and_true, lst_set, lst_snoc, lm_set, lm_snoc, shOnly, shE_ow0, shE_ow1, shE_io, shE_no, Option.isSome_some, reduceIte, if_true, if_false, Bool.false_eq_true, Nat.reduceEqDiff]
  refine ⟨flatAt_Li, .inl (by decide), ?_⟩
  refine callLacks fun lacks hl => ?_
  simp -dsimp only [↓uSeq, ↓uNext, ↓uFor, ↓uSt, ↓uStV, ↓uAu, ↓uAp, ↓uApMv, ↓uAuN, ↓uAlias, ↓uDem, ↓uBrk, ↓uCnt, ↓uNev, ↓uRet, ↓uRetN, ↓uExp, ↓uExpP, ↓uRaise1, ↓wCallX, ↓uExpX, ↓uRetX, ↓uSetX, ↓uTryE, ↓gLtT, ↓iRngD, ↓vSortP, ↓vCat, ↓vCatV, ↓gCat, ↓uSet, ↓uSetR, ↓uIf, ↓wVar, ↓wVarV, ↓wC, ↓w1, ↓w2, ↓wT, asB, ↓wChain, ↓wNil, ↓wCons, ↓wAnd, ↓wOr, ↓wNot, ↓wAndV, ↓wOrV, ↓wNotV, ↓wIf, ↓wCallP, ↓wCallV, ↓wCa, ↓wTup, ↓wLst, ↓oNon, ↓oSom, ↓wSlice, ↓wRev, ↓vP, ↓vSh, ↓vFit, ↓vaNil, ↓vaCons, ↓vLst, ↓vTup, ↓vTup0, ↓vList, ↓vRep, ↓vSlice, ↓cSl, ↓vCallN, ↓v1, ↓vCa, ↓vIx, ↓tP, ↓vAnd, ↓vOr, ↓vNot, ↓vIf, ↓vT, ↓v2, ↓vLc, ↓gI2, ↓gI2c, ↓gLen, ↓gII, ↓gI, ↓gInt1, ↓gRep, ↓gKids, ↓gIn, ↓iLst, ↓TL.iTup, ↓TL.iRng1, ↓TL.iRng2, ↓iEn, ↓iZp, ↓hName, ↓hCons, ↓hNil, ↓hTup, ↓wSl, ↓wIsi, ↓wYes, rho0, iniE, entOf, allSh, List.replicate, List.length_cons, List.length_nil, Nat.reduceAdd, Nat.reduceSub, Nat.reduceLT, Nat.reduceLeDiff, List.cons_append, List.nil_append, List.getElem?_cons_zero, List.getElem?_cons_succ, Option.bind_some, Ent.tr, Ent.own, Ent.put, setE, killA, noAl_ow, noAl_io1, noAl_no, noAl_ro, noAl_al', killJ_cons, killJ_nil0, noRo_ow, noRo_io, noRo_no, noRo_al, mem1, notIn, noRA_ow, noRA_io, noRA_no, noRA_al, Plc, demE, List.foldl_cons, List.foldl_nil, List.map_cons, List.map_nil, List.set_cons_zero, List.set_cons_succ, endsOf, ↓outsOf, Option.map_some, plSet, TL.putAt, T.put, true_and, and_true, lst_set, lst_snoc, lm_set, lm_snoc, shOnly, shE_ow0, shE_ow1, shE_io, shE_no, Option.isSome_some, reduceIte, if_true, if_false, Bool.false_eq_true, Nat.reduceEqDiff]
  refine ⟨ns, 1, 87, rfl, by decide, fun a2 b2 => ?_⟩
  simp -dsimp only [↓uSeq, ↓uNext, ↓uFor, ↓uSt, ↓uStV, ↓uAu, ↓uAp, ↓uApMv, ↓uAuN, ↓uAlias, ↓uDem, ↓uBrk, ↓uCnt, ↓uNev, ↓uRet, ↓uRetN, ↓uExp, ↓uExpP, ↓uRaise1, ↓wCallX, ↓uExpX, ↓uRetX, ↓uSetX, ↓uTryE, ↓gLtT, ↓iRngD, ↓vSortP, ↓vCat, ↓vCatV, ↓gCat, ↓uSet, ↓uSetR, ↓uIf, ↓wVar, ↓wVarV, ↓wC, ↓w1, ↓w2, ↓wT, asB, ↓wChain, ↓wNil, ↓wCons, ↓wAnd, ↓wOr, ↓wNot, ↓wAndV, ↓wOrV, ↓wNotV, ↓wIf, ↓wCallP, ↓wCallV, ↓wCa, ↓wTup, ↓wLst, ↓oNon, ↓oSom, ↓wSlice, ↓wRev, ↓vP, ↓vSh, ↓vFit, ↓vaNil, ↓vaCons, ↓vLst, ↓vTup, ↓vTup0, ↓vList, ↓vRep, ↓vSlice, ↓cSl, ↓vCallN, ↓v1, ↓vCa, ↓vIx, ↓tP, ↓vAnd, ↓vOr, ↓vNot, ↓vIf, ↓vT, ↓v2, ↓vLc, ↓gI2, ↓gI2c, ↓gLen, ↓gII, ↓gI, ↓gInt1, ↓gRep, ↓gKids, ↓gIn, ↓iLst, ↓TL.iTup, ↓TL.iRng1, ↓TL.iRng2, ↓iEn, ↓iZp, ↓hName, ↓hCons, ↓hNil, ↓hTup, ↓wSl, ↓wIsi, ↓wYes, rho0, iniE, entOf, allSh, List.replicate, List.length_cons, List.length_nil, Nat.reduceAdd, Nat.reduceSub, Nat.reduceLT, Nat.reduceLeDiff, List.cons_append, List.nil_append, List.getElem?_cons_zero, List.getElem?_cons_succ, Option.bind_some, Ent.tr, Ent.own, Ent.put, setE, killA, noAl_ow, noAl_io1, noAl_no, noAl_ro, noAl_al', killJ_cons, killJ_nil0, noRo_ow, noRo_io, noRo_no, noRo_al, mem1, notIn, noRA_ow, noRA_io, noRA_no, noRA_al, Plc, demE, List.foldl_cons, List.foldl_nil, List.map_cons, List.map_nil, List.set_cons_zero, List.set_cons_succ, endsOf, ↓outsOf, Option.map_some, plSet, TL.putAt, T.put, true_and, and_true, lst_set, lst_snoc, lm_set, lm_snoc, shOnly, shE_ow0, shE_ow1, shE_io, shE_no, Option.isSome_some, reduceIte, if_true, if_false, Bool.false_eq_true, Nat.reduceEqDiff]
  refine ⟨flatAt_Li, .inl (by decide), rfl, fit0, callKinds (by rw [List.length_map]) hl fun kinds hg => ?_⟩
  simp -dsimp only [↓uSeq, ↓uNext, ↓uFor, ↓uSt, ↓uStV, ↓uAu, ↓uAp, ↓uApMv, ↓uAuN, ↓uAlias, ↓uDem, ↓uBrk, ↓uCnt, ↓uNev, ↓uRet, ↓uRetN, ↓uExp, ↓uExpP, ↓uRaise1, ↓wCallX, ↓uExpX, ↓uRetX, ↓uSetX, ↓uTryE, ↓gLtT, ↓iRngD, ↓vSortP, ↓vCat, ↓vCatV, ↓gCat, ↓uSet, ↓uSetR, ↓uIf, ↓wVar, ↓wVarV, ↓wC, ↓w1, ↓w2, ↓wT, asB, ↓wChain, ↓wNil, ↓wCons, ↓wAnd, ↓wOr, ↓wNot, ↓wAndV, ↓wOrV, ↓wNotV, ↓wIf, ↓wCallP, ↓wCallV, ↓wCa, ↓wTup, ↓wLst, ↓oNon, ↓oSom, ↓wSlice, ↓wRev, ↓vP, ↓vSh, ↓vFit, ↓vaNil, ↓vaCons, ↓vLst, ↓vTup, ↓vTup0, ↓vList, ↓vRep, ↓vSlice, ↓cSl, ↓vCallN, ↓v1, ↓vCa, ↓vIx, ↓tP, ↓vAnd, ↓vOr, ↓vNot, ↓vIf, ↓vT, ↓v2, ↓vLc, ↓gI2, ↓gI2c, ↓gLen, ↓gII, ↓gI, ↓gInt1, ↓gRep, ↓gKids, ↓gIn, ↓iLst, ↓TL.iTup, ↓TL.iRng1, ↓TL.iRng2, ↓iEn, ↓iZp, ↓hName, ↓hCons, ↓hNil, ↓hTup, ↓wSl, ↓wIsi, ↓wYes, rho0, iniE, entOf, allSh, List.replicate, List.length_cons, List.length_nil, Nat.reduceAdd, Nat.reduceSub, Nat.reduceLT, Nat.reduceLeDiff, List.cons_append, List.nil_append, List.getElem?_cons_zero, List.getElem?_cons_succ, Option.bind_some, Ent.tr, Ent.own, Ent.put, setE, killA, noAl_ow, noAl_io1, noAl_no, noAl_ro, noAl_al', killJ_cons, killJ_nil0, noRo_ow, noRo_io, noRo_no, noRo_al, mem1, notIn, noRA_ow, noRA_io, noRA_no, noRA_al, Plc, demE, List.foldl_cons, List.foldl_nil, List.map_cons, List.map_nil, List.set_cons_zero, List.set_cons_succ, endsOf, ↓outsOf, Option.map_some, plSet, TL.putAt, T.put, true_and, and_true, lst_set, lst_snoc, lm_set, lm_snoc, shOnly, shE_ow0, shE_ow1, shE_io, shE_no, Option.isSome_some, reduceIte, if_true, if_false, Bool.false_eq_true, Nat.reduceEqDiff]
  obtain ⟨qs, hqs⟩ := cheap_ex kinds
  refine ⟨lacks, kinds, qs, rfl, by omega, hg, hqs, ?_⟩
  have fs : (stockT qs lacks kinds).flatAt 2 = true := by
    rcases stock_cases hqs hg with ⟨k, e⟩ | ⟨am, ps, rs, e, h1, h2, h3⟩ <;> rw [e]
    · rfl
    · exact flatAts_iff.mpr fun t h => by
        simp only [List.mem_cons, List.not_mem_nil, or_false] at h
        rcases h with rfl | rfl | rfl <;> exact flatAt_Li
  refine ⟨fs, flats_ints _, .inl (Nat.le_refl _), flats_k _, .inl (Nat.le_refl _), ?_⟩
  simp -dsimp only [gpr0, gpr1, ↓uSeq, ↓uNext, ↓uFor, ↓uSt, ↓uStV, ↓uAu, ↓uAp, ↓uApMv, ↓uAuN, ↓uAlias, ↓uDem, ↓uBrk, ↓uCnt, ↓uNev, ↓uRet, ↓uRetN, ↓uExp, ↓uExpP, ↓uRaise1, ↓wCallX, ↓uExpX, ↓uRetX, ↓uSetX, ↓uTryE, ↓gLtT, ↓iRngD, ↓vSortP, ↓vCat, ↓vCatV, ↓gCat, ↓uSet, ↓uSetR, ↓uIf, ↓wVar, ↓wVarV, ↓wC, ↓w1, ↓w2, ↓wT, asB, ↓wChain, ↓wNil, ↓wCons, ↓wAnd, ↓wOr, ↓wNot, ↓wAndV, ↓wOrV, ↓wNotV, ↓wIf, ↓wCallP, ↓wCallV, ↓wCa, ↓wTup, ↓wLst, ↓oNon, ↓oSom, ↓wSlice, ↓wRev, ↓vP, ↓vSh, ↓vFit, ↓vaNil, ↓vaCons, ↓vLst, ↓vTup, ↓vTup0, ↓vList, ↓vRep, ↓vSlice, ↓cSl, ↓vCallN, ↓v1, ↓vCa, ↓vIx, ↓tP, ↓vAnd, ↓vOr, ↓vNot, ↓vIf, ↓vT, ↓v2, ↓vLc, ↓gI2, ↓gI2c, ↓gLen, ↓gII, ↓gI, ↓gInt1, ↓gRep, ↓gKids, ↓gIn, ↓iLst, ↓TL.iTup, ↓TL.iRng1, ↓TL.iRng2, ↓iEn, ↓iZp, ↓hName, ↓hCons, ↓hNil, ↓hTup, ↓wSl, ↓wIsi, ↓wYes, rho0, iniE, entOf, allSh, List.replicate, List.length_cons, List.length_nil, Nat.reduceAdd, Nat.reduceSub, Nat.reduceLT, Nat.reduceLeDiff, List.cons_append, List.nil_append, List.getElem?_cons_zero, List.getElem?_cons_succ, Option.bind_some, Ent.tr, Ent.own, Ent.put, setE, killA, noAl_ow, noAl_io1, noAl_no, noAl_ro, noAl_al', killJ_cons, killJ_nil0, noRo_ow, noRo_io, noRo_no, noRo_al, mem1, notIn, noRA_ow, noRA_io, noRA_no, noRA_al, Plc, demE, List.foldl_cons, List.foldl_nil, List.map_cons, List.map_nil, List.set_cons_zero, List.set_cons_succ, endsOf, ↓outsOf, Option.map_some, plSet, TL.putAt, T.put, true_and, and_true, lst_set, lst_snoc, lm_set, lm_snoc, shOnly, shE_ow0, shE_ow1, shE_io, shE_no, Option.isSome_some, reduceIte, if_true, if_false, Bool.false_eq_true, Nat.reduceEqDiff]
  refine ⟨lacks, kinds, rfl, by omega, fun _ qs' hq' => ?_, fun z => absurd hg z⟩
  rw [cheap_one hq' hqs]
  simp -dsimp only [gpr0, gpr1, ↓uSeq, ↓uNext, ↓uFor, ↓uSt, ↓uStV, ↓uAu, ↓uAp, ↓uApMv, ↓uAuN, ↓uAlias, ↓uDem, ↓uBrk, ↓uCnt, ↓uNev, ↓uRet, ↓uRetN, ↓uExp, ↓uExpP, ↓uRaise1, ↓wCallX, ↓uExpX, ↓uRetX, ↓uSetX, ↓uTryE, ↓gLtT, ↓iRngD, ↓vSortP, ↓vCat, ↓vCatV, ↓gCat, ↓uSet, ↓uSetR, ↓uIf, ↓wVar, ↓wVarV, ↓wC, ↓w1, ↓w2, ↓wT, asB, ↓wChain, ↓wNil, ↓wCons, ↓wAnd, ↓wOr, ↓wNot, ↓wAndV, ↓wOrV, ↓wNotV, ↓wIf, ↓wCallP, ↓wCallV, ↓wCa, ↓wTup, ↓wLst, ↓oNon, ↓oSom, ↓wSlice, ↓wRev, ↓vP, ↓vSh, ↓vFit, ↓vaNil, ↓vaCons, ↓vLst, ↓vTup, ↓vTup0, ↓vList, ↓vRep, ↓vSlice, ↓cSl, ↓vCallN, ↓v1, ↓vCa, ↓vIx, ↓tP, ↓vAnd, ↓vOr, ↓vNot, ↓vIf, ↓vT, ↓v2, ↓vLc, ↓gI2, ↓gI2c, ↓gLen, ↓gII, ↓gI, ↓gInt1, ↓gRep, ↓gKids, ↓gIn, ↓iLst, ↓TL.iTup, ↓TL.iRng1, ↓TL.iRng2, ↓iEn, ↓iZp, ↓hName, ↓hCons, ↓hNil, ↓hTup, ↓wSl, ↓wIsi, ↓wYes, rho0, iniE, entOf, allSh, List.replicate, List.length_cons, List.length_nil, Nat.reduceAdd, Nat.reduceSub, Nat.reduceLT, Nat.reduceLeDiff, List.cons_append, List.nil_append, List.getElem?_cons_zero, List.getElem?_cons_succ, Option.bind_some, Ent.tr, Ent.own, Ent.put, setE, killA, noAl_ow, noAl_io1, noAl_no, noAl_ro, noAl_al', killJ_cons, killJ_nil0, noRo_ow, noRo_io, noRo_no, noRo_al, mem1, notIn, noRA_ow, noRA_io, noRA_no, noRA_al, Plc, demE, List.foldl_cons, List.foldl_nil, List.map_cons, List.map_nil, List.set_cons_zero, List.set_cons_succ, endsOf, ↓outsOf, Option.map_some, plSet, TL.putAt, T.put, true_and, and_true, lst_set, lst_snoc, lm_set, lm_snoc, shOnly, shE_ow0, shE_ow1, shE_io, shE_no, Option.isSome_some, reduceIte, if_true, if_false, Bool.false_eq_true, Nat.reduceEqDiff]
  have ok4 := okd_stock (n := 2) hqs hg
  have sm4 := sml_stock hqs hg (by omega)
  have k2 : (T.lst [Li lacks, Lk kinds]).okd 4 = true := okds_iff.mpr fun t h => by
    simp only [List.mem_cons, List.not_mem_nil, or_false] at h
    rcases h with rfl | rfl
    · exact okd_li _
    · exact okd_lk _
  have s2 : smlT (T.lst [Li lacks, Lk kinds]) = true := by
    rw [smlT, Bool.and_eq_true]
    refine ⟨rfl, smlTs_iff.mpr fun t h => ?_⟩
    simp only [List.mem_cons, List.not_mem_nil, or_false] at h
    have := hg.1
    rcases h with rfl | rfl
    · exact sml_li (by omega)
    · exact sml_lk (by omega)
  refine ⟨fs, _, rfl, by decide, ok4, sm4, ifF (by decide) ⟨_, rfl, by decide, k2, s2, ifF (by decide) ?_⟩⟩
  rcases stock_cases hqs hg with ⟨k, e⟩ | ⟨am, ps, rs, e, h1, h2, h3⟩ <;> rw [e]
  · refine ifF (by simp) ?_
    refine ⟨fun i acc ρ => ∃ as : List Int, acc = as.map T.int ∧ as.length = i ∧ ρ = [Ent.ow 0 (T.scr ns), Ent.ow 0 (Li lacks), Ent.ow 0 (Lk kinds), Ent.ow 0 (T.tup [T.non, T.int (k : Nat)]), Ent.ow 0 (T.lst [T.lst (List.map T.int lacks), T.lst (List.map tr3 kinds)]), Ent.ow 2 (T.tup [T.non, T.int (k : Nat)]), Ent.no, Ent.no, Ent.no, Ent.no], ⟨[], rfl, rfl, rfl⟩, fun i t acc ρ hi hI => ?_, fun acc ρ hI => ?_⟩
    · obtain ⟨as, rfl, ha, rfl⟩ := hI
      obtain ⟨y, hy, rfl⟩ := mapint_get.mp hi
      have il := (List.getElem?_eq_some_iff.mp hy).1
      simp -dsimp only [↓uSeq, ↓uNext, ↓uFor, ↓uSt, ↓uStV, ↓uAu, ↓uAp, ↓uApMv, ↓uAuN, ↓uAlias, ↓uDem, ↓uBrk, ↓uCnt, ↓uNev, ↓uRet, ↓uRetN, ↓uExp, ↓uExpP, ↓uRaise1, ↓wCallX, ↓uExpX, ↓uRetX, ↓uSetX, ↓uTryE, ↓gLtT, ↓iRngD, ↓vSortP, ↓vCat, ↓vCatV, ↓gCat, ↓uSet, ↓uSetR, ↓uIf, ↓wVar, ↓wVarV, ↓wC, ↓w1, ↓w2, ↓wT, asB, ↓wChain, ↓wNil, ↓wCons, ↓wAnd, ↓wOr, ↓wNot, ↓wAndV, ↓wOrV, ↓wNotV, ↓wIf, ↓wCallP, ↓wCallV, ↓wCa, ↓wTup, ↓wLst, ↓oNon, ↓oSom, ↓wSlice, ↓wRev, ↓vP, ↓vSh, ↓vFit, ↓vaNil, ↓vaCons, ↓vLst, ↓vTup, ↓vTup0, ↓vList, ↓vRep, ↓vSlice, ↓cSl, ↓vCallN, ↓v1, ↓vCa, ↓vIx, ↓tP, ↓vAnd, ↓vOr, ↓vNot, ↓vIf, ↓vT, ↓v2, ↓vLc, ↓gI2, ↓gI2c, ↓gLen, ↓gII, ↓gI, ↓gInt1, ↓gRep, ↓gKids, ↓gIn, ↓iLst, ↓TL.iTup, ↓TL.iRng1, ↓TL.iRng2, ↓iEn, ↓iZp, ↓hName, ↓hCons, ↓hNil, ↓hTup, ↓wSl, ↓wIsi, ↓wYes, rho0, iniE, entOf, allSh, List.replicate, List.length_cons, List.length_nil, Nat.reduceAdd, Nat.reduceSub, Nat.reduceLT, Nat.reduceLeDiff, List.cons_append, List.nil_append, List.getElem?_cons_zero, List.getElem?_cons_succ, Option.bind_some, Ent.tr, Ent.own, Ent.put, setE, killA, noAl_ow, noAl_io1, noAl_no, noAl_ro, noAl_al', killJ_cons, killJ_nil0, noRo_ow, noRo_io, noRo_no, noRo_al, mem1, notIn, noRA_ow, noRA_io, noRA_no, noRA_al, Plc, demE, List.foldl_cons, List.foldl_nil, List.map_cons, List.map_nil, List.set_cons_zero, List.set_cons_succ, endsOf, ↓outsOf, Option.map_some, plSet, TL.putAt, T.put, true_and, and_true, lst_set, lst_snoc, lm_set, lm_snoc, shOnly, shE_ow0, shE_ow1, shE_io, shE_no, Option.isSome_some, reduceIte, if_true, if_false, Bool.false_eq_true, Nat.reduceEqDiff]
      refine ⟨⟨by decide, by decide, by decide⟩, rfl, fit0, by rw [List.length_map]; omega, as ++ [if (0 : Int) - 10 ^ Int.toNat 15 > y - 1 then 0 - 10 ^ Int.toNat 15 else y - 1], ?_, by rw [List.length_append, ha]; rfl⟩
      rw [List.map_append]; rfl
    · obtain ⟨as, rfl, ha, rfl⟩ := hI
      rw [List.length_map] at ha
      simp -dsimp only [↓uSeq, ↓uNext, ↓uFor, ↓uSt, ↓uStV, ↓uAu, ↓uAp, ↓uApMv, ↓uAuN, ↓uAlias, ↓uDem, ↓uBrk, ↓uCnt, ↓uNev, ↓uRet, ↓uRetN, ↓uExp, ↓uExpP, ↓uRaise1, ↓wCallX, ↓uExpX, ↓uRetX, ↓uSetX, ↓uTryE, ↓gLtT, ↓iRngD, ↓vSortP, ↓vCat, ↓vCatV, ↓gCat, ↓uSet, ↓uSetR, ↓uIf, ↓wVar, ↓wVarV, ↓wC, ↓w1, ↓w2, ↓wT, asB, ↓wChain, ↓wNil, ↓wCons, ↓wAnd, ↓wOr, ↓wNot, ↓wAndV, ↓wOrV, ↓wNotV, ↓wIf, ↓wCallP, ↓wCallV, ↓wCa, ↓wTup, ↓wLst, ↓oNon, ↓oSom, ↓wSlice, ↓wRev, ↓vP, ↓vSh, ↓vFit, ↓vaNil, ↓vaCons, ↓vLst, ↓vTup, ↓vTup0, ↓vList, ↓vRep, ↓vSlice, ↓cSl, ↓vCallN, ↓v1, ↓vCa, ↓vIx, ↓tP, ↓vAnd, ↓vOr, ↓vNot, ↓vIf, ↓vT, ↓v2, ↓vLc, ↓gI2, ↓gI2c, ↓gLen, ↓gII, ↓gI, ↓gInt1, ↓gRep, ↓gKids, ↓gIn, ↓iLst, ↓TL.iTup, ↓TL.iRng1, ↓TL.iRng2, ↓iEn, ↓iZp, ↓hName, ↓hCons, ↓hNil, ↓hTup, ↓wSl, ↓wIsi, ↓wYes, rho0, iniE, entOf, allSh, List.replicate, List.length_cons, List.length_nil, Nat.reduceAdd, Nat.reduceSub, Nat.reduceLT, Nat.reduceLeDiff, List.cons_append, List.nil_append, List.getElem?_cons_zero, List.getElem?_cons_succ, Option.bind_some, Ent.tr, Ent.own, Ent.put, setE, killA, noAl_ow, noAl_io1, noAl_no, noAl_ro, noAl_al', killJ_cons, killJ_nil0, noRo_ow, noRo_io, noRo_no, noRo_al, mem1, notIn, noRA_ow, noRA_io, noRA_no, noRA_al, Plc, demE, List.foldl_cons, List.foldl_nil, List.map_cons, List.map_nil, List.set_cons_zero, List.set_cons_succ, endsOf, ↓outsOf, Option.map_some, plSet, TL.putAt, T.put, true_and, and_true, lst_set, lst_snoc, lm_set, lm_snoc, shOnly, shE_ow0, shE_ow1, shE_io, shE_no, Option.isSome_some, reduceIte, if_true, if_false, Bool.false_eq_true, Nat.reduceEqDiff]
      obtain ⟨qs2, hqs2⟩ := cheap_ex kinds
      have hg2 : goodK as.length kinds := by rw [ha]; exact hg
      refine ⟨as, kinds, rfl, by omega, fun _ qs' hq' => ?_, fun z => absurd hg2 z⟩
      refine ⟨as, kinds, qs', rfl, by omega, hg2, hq', ?_⟩
      refine ⟨_, rfl, by decide, okd_stock hq' hg2, sml_stock hq' hg2 (by omega), ifF (by decide) ?_⟩
      simp -dsimp only [gpr0, gpr1, ↓uSeq, ↓uNext, ↓uFor, ↓uSt, ↓uStV, ↓uAu, ↓uAp, ↓uApMv, ↓uAuN, ↓uAlias, ↓uDem, ↓uBrk, ↓uCnt, ↓uNev, ↓uRet, ↓uRetN, ↓uExp, ↓uExpP, ↓uRaise1, ↓wCallX, ↓uExpX, ↓uRetX, ↓uSetX, ↓uTryE, ↓gLtT, ↓iRngD, ↓vSortP, ↓vCat, ↓vCatV, ↓gCat, ↓uSet, ↓uSetR, ↓uIf, ↓wVar, ↓wVarV, ↓wC, ↓w1, ↓w2, ↓wT, asB, ↓wChain, ↓wNil, ↓wCons, ↓wAnd, ↓wOr, ↓wNot, ↓wAndV, ↓wOrV, ↓wNotV, ↓wIf, ↓wCallP, ↓wCallV, ↓wCa, ↓wTup, ↓wLst, ↓oNon, ↓oSom, ↓wSlice, ↓wRev, ↓vP, ↓vSh, ↓vFit, ↓vaNil, ↓vaCons, ↓vLst, ↓vTup, ↓vTup0, ↓vList, ↓vRep, ↓vSlice, ↓cSl, ↓vCallN, ↓v1, ↓vCa, ↓vIx, ↓tP, ↓vAnd, ↓vOr, ↓vNot, ↓vIf, ↓vT, ↓v2, ↓vLc, ↓gI2, ↓gI2c, ↓gLen, ↓gII, ↓gI, ↓gInt1, ↓gRep, ↓gKids, ↓gIn, ↓iLst, ↓TL.iTup, ↓TL.iRng1, ↓TL.iRng2, ↓iEn, ↓iZp, ↓hName, ↓hCons, ↓hNil, ↓hTup, ↓wSl, ↓wIsi, ↓wYes, rho0, iniE, entOf, allSh, List.replicate, List.length_cons, List.length_nil, Nat.reduceAdd, Nat.reduceSub, Nat.reduceLT, Nat.reduceLeDiff, List.cons_append, List.nil_append, List.getElem?_cons_zero, List.getElem?_cons_succ, Option.bind_some, Ent.tr, Ent.own, Ent.put, setE, killA, noAl_ow, noAl_io1, noAl_no, noAl_ro, noAl_al', killJ_cons, killJ_nil0, noRo_ow, noRo_io, noRo_no, noRo_al, mem1, notIn, noRA_ow, noRA_io, noRA_no, noRA_al, Plc, demE, List.foldl_cons, List.foldl_nil, List.map_cons, List.map_nil, List.set_cons_zero, List.set_cons_succ, endsOf, ↓outsOf, Option.map_some, plSet, TL.putAt, T.put, true_and, and_true, lst_set, lst_snoc, lm_set, lm_snoc, shOnly, shE_ow0, shE_ow1, shE_io, shE_no, Option.isSome_some, reduceIte, if_true, if_false, Bool.false_eq_true, Nat.reduceEqDiff]
      refine ⟨lacks, kinds, rfl, by omega, fun _ qs3 hq3 => ?_, fun z => absurd hg z⟩
      rw [cheap_one hq3 hqs, ← e]
      refine ⟨_, rfl, by decide, ok4, sm4, ifF (by decide) ?_⟩
      refine ⟨ns, 2, 87, rfl, by decide, fun a3 b3 => ⟨flatAt_Li, rfl, fit0, callDraw_sl rfl (by decide) (by decide) fun v a4 c4 v0 v1 => ?_⟩⟩
      refine ⟨rfl, rfl, ifS (fun _ => ⟨rfl, h⟩) fun _ => ⟨rfl, fit0, fit0, ?_⟩⟩
      unfold vaNil
      exact callRef_sl (i := 7) (a := a4) (b := b3) (c := c4) (lacks := lacks) (kinds := kinds) rfl hl hg fun a5 c5 => h
  · refine ifT (by simp) ?_
    refine ⟨rfl, 3, fun i ρ => ∃ (us : List (List Int)) (x8 : Ent), ρ = [Ent.ow 0 (T.scr ns), Ent.ow 0 (Li lacks), Ent.ow 0 (Lk kinds), Ent.ow 0 (T.tup [Li am, Li ps, Li rs]),
        Ent.ow 0 (T.lst [T.lst (List.map T.int lacks), T.lst (List.map tr3 kinds)]), Ent.io 2 (T.tup (us.map fun xs => Li xs)), Ent.no, Ent.no, x8, Ent.no] ∧ us.length = 3 ∧ (∀ xs ∈ us, xs.length ≤ 1001 + i) ∧ x8.isIo = false ∧ (i = 0 ∨ ∃ q t, x8 = Ent.al 5 q t), ⟨[am, ps, rs], _, rfl, rfl, fun xs h => ?_, rfl, .inl rfl⟩, fun i ρ hi hI => ?_, fun ρ hI => ?_⟩
    · have := hg.1
      simp only [List.mem_cons, List.not_mem_nil, or_false] at h
      rcases h with rfl | rfl | rfl <;> omega
    · obtain ⟨us, x8, rfl, ul, ux, hx, hx8⟩ := hI
      refine ⟨1, _, rfl, by rw [List.length_map]; exact ul, fun t ht => ?_⟩
      obtain ⟨r, hr1, rfl⟩ := mapLi_get.mp ht
      have rl := ux r (List.mem_of_getElem? hr1)
      refine ⟨by decide, by simp, ?_⟩
      show uSeq (uAp 8 _) _ _ (setE _ 8 (.al 5 i (.lst (List.map T.int r))))
      simp -dsimp only [↓uSeq, ↓uNext, ↓uFor, ↓uSt, ↓uStV, ↓uAu, ↓uAp, ↓uApMv, ↓uAuN, ↓uAlias, ↓uDem, ↓uBrk, ↓uCnt, ↓uNev, ↓uRet, ↓uRetN, ↓uExp, ↓uExpP, ↓uRaise1, ↓wCallX, ↓uExpX, ↓uRetX, ↓uSetX, ↓uTryE, ↓gLtT, ↓iRngD, ↓vSortP, ↓vCat, ↓vCatV, ↓gCat, ↓uSet, ↓uSetR, ↓uIf, ↓wVar, ↓wVarV, ↓wC, ↓w1, ↓w2, ↓wT, asB, ↓wChain, ↓wNil, ↓wCons, ↓wAnd, ↓wOr, ↓wNot, ↓wAndV, ↓wOrV, ↓wNotV, ↓wIf, ↓wCallP, ↓wCallV, ↓wCa, ↓wTup, ↓wLst, ↓oNon, ↓oSom, ↓wSlice, ↓wRev, ↓vP, ↓vSh, ↓vFit, ↓vaNil, ↓vaCons, ↓vLst, ↓vTup, ↓vTup0, ↓vList, ↓vRep, ↓vSlice, ↓cSl, ↓vCallN, ↓v1, ↓vCa, ↓vIx, ↓tP, ↓vAnd, ↓vOr, ↓vNot, ↓vIf, ↓vT, ↓v2, ↓vLc, ↓gI2, ↓gI2c, ↓gLen, ↓gII, ↓gI, ↓gInt1, ↓gRep, ↓gKids, ↓gIn, ↓iLst, ↓TL.iTup, ↓TL.iRng1, ↓TL.iRng2, ↓iEn, ↓iZp, ↓hName, ↓hCons, ↓hNil, ↓hTup, ↓wSl, ↓wIsi, ↓wYes, rho0, iniE, entOf, allSh, List.replicate, List.length_cons, List.length_nil, Nat.reduceAdd, Nat.reduceSub, Nat.reduceLT, Nat.reduceLeDiff, List.cons_append, List.nil_append, List.getElem?_cons_zero, List.getElem?_cons_succ, Option.bind_some, Ent.tr, Ent.own, Ent.put, setE, killA, noAl_ow, noAl_io1, noAl_no, noAl_ro, noAl_al', killJ_cons, killJ_nil0, noRo_ow, noRo_io, noRo_no, noRo_al, mem1, notIn, noRA_ow, noRA_io, noRA_no, noRA_al, Plc, demE, List.foldl_cons, List.foldl_nil, List.map_cons, List.map_nil, List.set_cons_zero, List.set_cons_succ, endsOf, ↓outsOf, Option.map_some, plSet, TL.putAt, T.put, true_and, and_true, lst_set, lst_snoc, lm_set, lm_snoc, shOnly, shE_ow0, shE_ow1, shE_io, shE_no, Option.isSome_some, reduceIte, if_true, if_false, Bool.false_eq_true, Nat.reduceEqDiff]
      refine ⟨rfl, fit0, by rw [List.length_map]; omega, ?_⟩
      obtain ⟨y, ys, hy⟩ : ∃ y ys, r ++ [7] = y :: ys := by
        cases r with
        | nil => exact ⟨_, _, rfl⟩
        | cons y ys => exact ⟨_, _, rfl⟩
      rw [hy]
      have hq0 : ixN (List.map T.int (y :: ys)).length 0 = some 0 := ixN_nat (j := 0) (by simp)
      refine gIx_Li (i := 0) rfl ⟨rfl, ?_⟩
      rw [hq0]
      refine ⟨fit0, us.set i ((y + 1) :: ys), .al 5 i (Li ((y + 1) :: ys)), ?_, by rw [List.length_set]; exact ul, fun q hq => ?_, rfl, .inr ⟨_, _, rfl⟩⟩
      · rw [List.map_set, List.set_set]
        rfl
      · rcases List.mem_or_eq_of_mem_set hq with z | rfl
        · have := ux q z
          omega
        · have := congrArg List.length hy
          rw [List.length_append, List.length_cons] at this
          simp only [List.length_cons, List.length_nil] at this ⊢
          omega
    · obtain ⟨us, x8, rfl, ul, ux, hx, hx8⟩ := hI
      rcases hx8 with hx8 | ⟨q8, t8, rfl⟩
      · exact absurd hx8 (by decide)
      refine ⟨rfl, by simp only [List.map_cons, List.map_nil, List.set_cons_succ, List.set_cons_zero, hx]; rfl, ?_⟩
      show uSeq _ _ _ [Ent.ow 0 (T.scr ns), Ent.ow 0 (Li lacks), Ent.ow 0 (Lk kinds), Ent.ow 0 (T.tup [Li am, Li ps, Li rs]),
        Ent.ow 0 (T.lst [T.lst (List.map T.int lacks), T.lst (List.map tr3 kinds)]), Ent.ow 2 (T.tup (us.map fun xs => Li xs)), Ent.no, Ent.no, Ent.al 5 q8 t8, Ent.no]
      simp -dsimp only [↓uSeq, ↓uNext, ↓uFor, ↓uSt, ↓uStV, ↓uAu, ↓uAp, ↓uApMv, ↓uAuN, ↓uAlias, ↓uDem, ↓uBrk, ↓uCnt, ↓uNev, ↓uRet, ↓uRetN, ↓uExp, ↓uExpP, ↓uRaise1, ↓wCallX, ↓uExpX, ↓uRetX, ↓uSetX, ↓uTryE, ↓gLtT, ↓iRngD, ↓vSortP, ↓vCat, ↓vCatV, ↓gCat, ↓uSet, ↓uSetR, ↓uIf, ↓wVar, ↓wVarV, ↓wC, ↓w1, ↓w2, ↓wT, asB, ↓wChain, ↓wNil, ↓wCons, ↓wAnd, ↓wOr, ↓wNot, ↓wAndV, ↓wOrV, ↓wNotV, ↓wIf, ↓wCallP, ↓wCallV, ↓wCa, ↓wTup, ↓wLst, ↓oNon, ↓oSom, ↓wSlice, ↓wRev, ↓vP, ↓vSh, ↓vFit, ↓vaNil, ↓vaCons, ↓vLst, ↓vTup, ↓vTup0, ↓vList, ↓vRep, ↓vSlice, ↓cSl, ↓vCallN, ↓v1, ↓vCa, ↓vIx, ↓tP, ↓vAnd, ↓vOr, ↓vNot, ↓vIf, ↓vT, ↓v2, ↓vLc, ↓gI2, ↓gI2c, ↓gLen, ↓gII, ↓gI, ↓gInt1, ↓gRep, ↓gKids, ↓gIn, ↓iLst, ↓TL.iTup, ↓TL.iRng1, ↓TL.iRng2, ↓iEn, ↓iZp, ↓hName, ↓hCons, ↓hNil, ↓hTup, ↓wSl, ↓wIsi, ↓wYes, rho0, iniE, entOf, allSh, List.replicate, List.length_cons, List.length_nil, Nat.reduceAdd, Nat.reduceSub, Nat.reduceLT, Nat.reduceLeDiff, List.cons_append, List.nil_append, List.getElem?_cons_zero, List.getElem?_cons_succ, Option.bind_some, Ent.tr, Ent.own, Ent.put, setE, killA, noAl_ow, noAl_io1, noAl_no, noAl_ro, noAl_al', killJ_cons, killJ_nil0, noRo_ow, noRo_io, noRo_no, noRo_al, mem1, notIn, noRA_ow, noRA_io, noRA_no, noRA_al, Plc, demE, List.foldl_cons, List.foldl_nil, List.map_cons, List.map_nil, List.set_cons_zero, List.set_cons_succ, endsOf, ↓outsOf, Option.map_some, plSet, TL.putAt, T.put, true_and, and_true, lst_set, lst_snoc, lm_set, lm_snoc, shOnly, shE_ow0, shE_ow1, shE_io, shE_no, Option.isSome_some, reduceIte, if_true, if_false, Bool.false_eq_true, Nat.reduceEqDiff]
      refine ⟨fun i acc ρ => ∃ as : List Int, acc = as.map T.int ∧ as.length = i ∧ ρ = [Ent.ow 0 (T.scr ns), Ent.ow 0 (Li lacks), Ent.ow 0 (Lk kinds), Ent.ow 0 (T.tup [Li am, Li ps, Li rs]), Ent.ow 0 (T.lst [T.lst (List.map T.int lacks), T.lst (List.map tr3 kinds)]), Ent.ow 2 (T.tup (List.map (fun xs => Li xs) us)), Ent.no, Ent.no, Ent.no, Ent.no], ⟨[], rfl, rfl, rfl⟩, fun i t acc ρ hi hI => ?_, fun acc ρ hI => ?_⟩
      · obtain ⟨as, rfl, ha, rfl⟩ := hI
        obtain ⟨y, hy, rfl⟩ := mapint_get.mp hi
        have il := (List.getElem?_eq_some_iff.mp hy).1
        simp -dsimp only [↓uSeq, ↓uNext, ↓uFor, ↓uSt, ↓uStV, ↓uAu, ↓uAp, ↓uApMv, ↓uAuN, ↓uAlias, ↓uDem, ↓uBrk, ↓uCnt, ↓uNev, ↓uRet, ↓uRetN, ↓uExp, ↓uExpP, ↓uRaise1, ↓wCallX, ↓uExpX, ↓uRetX, ↓uSetX, ↓uTryE, ↓gLtT, ↓iRngD, ↓vSortP, ↓vCat, ↓vCatV, ↓gCat, ↓uSet, ↓uSetR, ↓uIf, ↓wVar, ↓wVarV, ↓wC, ↓w1, ↓w2, ↓wT, asB, ↓wChain, ↓wNil, ↓wCons, ↓wAnd, ↓wOr, ↓wNot, ↓wAndV, ↓wOrV, ↓wNotV, ↓wIf, ↓wCallP, ↓wCallV, ↓wCa, ↓wTup, ↓wLst, ↓oNon, ↓oSom, ↓wSlice, ↓wRev, ↓vP, ↓vSh, ↓vFit, ↓vaNil, ↓vaCons, ↓vLst, ↓vTup, ↓vTup0, ↓vList, ↓vRep, ↓vSlice, ↓cSl, ↓vCallN, ↓v1, ↓vCa, ↓vIx, ↓tP, ↓vAnd, ↓vOr, ↓vNot, ↓vIf, ↓vT, ↓v2, ↓vLc, ↓gI2, ↓gI2c, ↓gLen, ↓gII, ↓gI, ↓gInt1, ↓gRep, ↓gKids, ↓gIn, ↓iLst, ↓TL.iTup, ↓TL.iRng1, ↓TL.iRng2, ↓iEn, ↓iZp, ↓hName, ↓hCons, ↓hNil, ↓hTup, ↓wSl, ↓wIsi, ↓wYes, rho0, iniE, entOf, allSh, List.replicate, List.length_cons, List.length_nil, Nat.reduceAdd, Nat.reduceSub, Nat.reduceLT, Nat.reduceLeDiff, List.cons_append, List.nil_append, List.getElem?_cons_zero, List.getElem?_cons_succ, Option.bind_some, Ent.tr, Ent.own, Ent.put, setE, killA, noAl_ow, noAl_io1, noAl_no, noAl_ro, noAl_al', killJ_cons, killJ_nil0, noRo_ow, noRo_io, noRo_no, noRo_al, mem1, notIn, noRA_ow, noRA_io, noRA_no, noRA_al, Plc, demE, List.foldl_cons, List.foldl_nil, List.map_cons, List.map_nil, List.set_cons_zero, List.set_cons_succ, endsOf, ↓outsOf, Option.map_some, plSet, TL.putAt, T.put, true_and, and_true, lst_set, lst_snoc, lm_set, lm_snoc, shOnly, shE_ow0, shE_ow1, shE_io, shE_no, Option.isSome_some, reduceIte, if_true, if_false, Bool.false_eq_true, Nat.reduceEqDiff]
        refine ⟨⟨by decide, by decide, by decide⟩, rfl, fit0, by rw [List.length_map]; omega, as ++ [if (0 : Int) - 10 ^ Int.toNat 15 > y - 1 then 0 - 10 ^ Int.toNat 15 else y - 1], ?_, by rw [List.length_append, ha]; rfl⟩
        rw [List.map_append]; rfl
      · obtain ⟨as, rfl, ha, rfl⟩ := hI
        rw [List.length_map] at ha
        simp -dsimp only [↓uSeq, ↓uNext, ↓uFor, ↓uSt, ↓uStV, ↓uAu, ↓uAp, ↓uApMv, ↓uAuN, ↓uAlias, ↓uDem, ↓uBrk, ↓uCnt, ↓uNev, ↓uRet, ↓uRetN, ↓uExp, ↓uExpP, ↓uRaise1, ↓wCallX, ↓uExpX, ↓uRetX, ↓uSetX, ↓uTryE, ↓gLtT, ↓iRngD, ↓vSortP, ↓vCat, ↓vCatV, ↓gCat, ↓uSet, ↓uSetR, ↓uIf, ↓wVar, ↓wVarV, ↓wC, ↓w1, ↓w2, ↓wT, asB, ↓wChain, ↓wNil, ↓wCons, ↓wAnd, ↓wOr, ↓wNot, ↓wAndV, ↓wOrV, ↓wNotV, ↓wIf, ↓wCallP, ↓wCallV, ↓wCa, ↓wTup, ↓wLst, ↓oNon, ↓oSom, ↓wSlice, ↓wRev, ↓vP, ↓vSh, ↓vFit, ↓vaNil, ↓vaCons, ↓vLst, ↓vTup, ↓vTup0, ↓vList, ↓vRep, ↓vSlice, ↓cSl, ↓vCallN, ↓v1, ↓vCa, ↓vIx, ↓tP, ↓vAnd, ↓vOr, ↓vNot, ↓vIf, ↓vT, ↓v2, ↓vLc, ↓gI2, ↓gI2c, ↓gLen, ↓gII, ↓gI, ↓gInt1, ↓gRep, ↓gKids, ↓gIn, ↓iLst, ↓TL.iTup, ↓TL.iRng1, ↓TL.iRng2, ↓iEn, ↓iZp, ↓hName, ↓hCons, ↓hNil, ↓hTup, ↓wSl, ↓wIsi, ↓wYes, rho0, iniE, entOf, allSh, List.replicate, List.length_cons, List.length_nil, Nat.reduceAdd, Nat.reduceSub, Nat.reduceLT, Nat.reduceLeDiff, List.cons_append, List.nil_append, List.getElem?_cons_zero, List.getElem?_cons_succ, Option.bind_some, Ent.tr, Ent.own, Ent.put, setE, killA, noAl_ow, noAl_io1, noAl_no, noAl_ro, noAl_al', killJ_cons, killJ_nil0, noRo_ow, noRo_io, noRo_no, noRo_al, mem1, notIn, noRA_ow, noRA_io, noRA_no, noRA_al, Plc, demE, List.foldl_cons, List.foldl_nil, List.map_cons, List.map_nil, List.set_cons_zero, List.set_cons_succ, endsOf, ↓outsOf, Option.map_some, plSet, TL.putAt, T.put, true_and, and_true, lst_set, lst_snoc, lm_set, lm_snoc, shOnly, shE_ow0, shE_ow1, shE_io, shE_no, Option.isSome_some, reduceIte, if_true, if_false, Bool.false_eq_true, Nat.reduceEqDiff]
        obtain ⟨qs2, hqs2⟩ := cheap_ex kinds
        have hg2 : goodK as.length kinds := by rw [ha]; exact hg
        refine ⟨as, kinds, rfl, by omega, fun _ qs' hq' => ?_, fun z => absurd hg2 z⟩
        refine ⟨as, kinds, qs', rfl, by omega, hg2, hq', ?_⟩
        refine ⟨_, rfl, by decide, okd_stock hq' hg2, sml_stock hq' hg2 (by omega), ifF (by decide) ?_⟩
        simp -dsimp only [gpr0, gpr1, ↓uSeq, ↓uNext, ↓uFor, ↓uSt, ↓uStV, ↓uAu, ↓uAp, ↓uApMv, ↓uAuN, ↓uAlias, ↓uDem, ↓uBrk, ↓uCnt, ↓uNev, ↓uRet, ↓uRetN, ↓uExp, ↓uExpP, ↓uRaise1, ↓wCallX, ↓uExpX, ↓uRetX, ↓uSetX, ↓uTryE, ↓gLtT, ↓iRngD, ↓vSortP, ↓vCat, ↓vCatV, ↓gCat, ↓uSet, ↓uSetR, ↓uIf, ↓wVar, ↓wVarV, ↓wC, ↓w1, ↓w2, ↓wT, asB, ↓wChain, ↓wNil, ↓wCons, ↓wAnd, ↓wOr, ↓wNot, ↓wAndV, ↓wOrV, ↓wNotV, ↓wIf, ↓wCallP, ↓wCallV, ↓wCa, ↓wTup, ↓wLst, ↓oNon, ↓oSom, ↓wSlice, ↓wRev, ↓vP, ↓vSh, ↓vFit, ↓vaNil, ↓vaCons, ↓vLst, ↓vTup, ↓vTup0, ↓vList, ↓vRep, ↓vSlice, ↓cSl, ↓vCallN, ↓v1, ↓vCa, ↓vIx, ↓tP, ↓vAnd, ↓vOr, ↓vNot, ↓vIf, ↓vT, ↓v2, ↓vLc, ↓gI2, ↓gI2c, ↓gLen, ↓gII, ↓gI, ↓gInt1, ↓gRep, ↓gKids, ↓gIn, ↓iLst, ↓TL.iTup, ↓TL.iRng1, ↓TL.iRng2, ↓iEn, ↓iZp, ↓hName, ↓hCons, ↓hNil, ↓hTup, ↓wSl, ↓wIsi, ↓wYes, rho0, iniE, entOf, allSh, List.replicate, List.length_cons, List.length_nil, Nat.reduceAdd, Nat.reduceSub, Nat.reduceLT, Nat.reduceLeDiff, List.cons_append, List.nil_append, List.getElem?_cons_zero, List.getElem?_cons_succ, Option.bind_some, Ent.tr, Ent.own, Ent.put, setE, killA, noAl_ow, noAl_io1, noAl_no, noAl_ro, noAl_al', killJ_cons, killJ_nil0, noRo_ow, noRo_io, noRo_no, noRo_al, mem1, notIn, noRA_ow, noRA_io, noRA_no, noRA_al, Plc, demE, List.foldl_cons, List.foldl_nil, List.map_cons, List.map_nil, List.set_cons_zero, List.set_cons_succ, endsOf, ↓outsOf, Option.map_some, plSet, TL.putAt, T.put, true_and, and_true, lst_set, lst_snoc, lm_set, lm_snoc, shOnly, shE_ow0, shE_ow1, shE_io, shE_no, Option.isSome_some, reduceIte, if_true, if_false, Bool.false_eq_true, Nat.reduceEqDiff]
        refine ⟨lacks, kinds, rfl, by omega, fun _ qs3 hq3 => ?_, fun z => absurd hg z⟩
        rw [cheap_one hq3 hqs, ← e]
        refine ⟨_, rfl, by decide, ok4, sm4, ifF (by decide) ?_⟩
        refine ⟨ns, 2, 87, rfl, by decide, fun a3 b3 => ⟨flatAt_Li, rfl, fit0, callDraw_sl rfl (by decide) (by decide) fun v a4 c4 v0 v1 => ?_⟩⟩
        refine ⟨rfl, rfl, ifS (fun _ => ⟨rfl, h⟩) fun _ => ⟨rfl, fit0, fit0, ?_⟩⟩
        unfold vaNil
        exact callRef_sl (i := 7) (a := a4) (b := b3) (c := c4) (lacks := lacks) (kinds := kinds) rfl hl hg fun a5 c5 => h
end
end K89
set_option Elab.async false
set_option linter.all false
set_option maxRecDepth 100000
namespace K89
open PySem PySem.Spec PyProof.Rows L2 TL
theorem sqf_of {K : PySem.W.Frag} {H : Hp} {a : Addr} {vs : List V} (h : SqL K H a vs) (ho : Only H) : SqF K H a vs := by
  rcases h with (h | ⟨o, h⟩) | h
  · rcases ho a with z | ⟨o, xs, z⟩
    · rw [h] at z; cases z
    · rw [h] at z; cases z
  · exact .inl ⟨o, h⟩
  · exact .inr h
theorem law_sp {K : PySem.W.Frag} {H : Hp} {a : Addr} {ns : List Int} {E : XK} (hO : Only H) (hS : SqL K H a (ns.map V.int)) : spT K (allSh 1) W_law [.ref a] H (fun v _ => v = .bl true) E := by
  have hs : Shrs K H (fun _ => True) [.scr ns] [.ref a] := Shrs.cons (.scr (sqf_of hS hO)) .nil
  refine spT_pure (n := 1) (R := fun _ t => t = .bl true) hs rfl ⟨ns, rfl, rfl⟩ fun m t v H' S' F h1 _ own _ _ _ _ => ?_
  subst h1
  cases own
  rfl
theorem kit_self {K : PySem.W.Frag} {v : Value} (h : (v == v) = true := by simp) : PySem.W.kitOne K v v = some true := if_pos h
theorem kit_cl {K : PySem.W.Frag} {C D : Addr} {b : Bool} (h2 : PySem.W.isClsIn K D = true) (h3 : PySem.W.typeIn K (.ref D) = some (.type "type")) (h4 : PySem.W.subIn K (.ref C) (.ref D) = some b) : PySem.W.kitCls K (.ref C) (.ref D) = some b := by
  have e2 : ((PySem.W.clsIn K D).isSome && PySem.W.typeIn K (.ref D) == some (.type "type")) = true := by
    have h2' : (PySem.W.clsIn K D).isSome = true := h2
    rw [h2', h3] <;> rfl
  show (if ((PySem.W.clsIn K D).isSome && PySem.W.typeIn K (.ref D) == some (.type "type")) = true then PySem.W.subIn K (.ref C) (.ref D) else none) = some b
  rw [if_pos e2]
  exact h4
theorem kit_no {K : PySem.W.Frag} {C D : Addr} (h1 : PySem.W.subIn K (.ref C) (.ref C) = some true) (h2 : PySem.W.isClsIn K D = true) (h3 : PySem.W.typeIn K (.ref D) = some (.type "type")) (h4 : PySem.W.subIn K (.ref C) (.ref D) = some false) : PySem.W.kitOne K (.ref C) (.ref D) = some false := by
  have ne : C ≠ D := fun e => by rw [← e, h1] at h4; cases h4
  have ne2 : ¬ ((Value.ref C == Value.ref D) = true) := fun e => ne (by have := eq_of_beq e; cases this; rfl)
  unfold PySem.W.kitOne
  rw [if_neg ne2]
  exact kit_cl h2 h3 h4
theorem kit_VE {K : PySem.W.Frag} {C : Addr} (h4 : PySem.W.subIn K (.ref C) (.type "ValueError") = some true) : PySem.W.kitOne K (.ref C) (.type "ValueError") = some true := by
  have ne2 : ¬ ((Value.ref C == Value.type "ValueError") = true) := fun e => by have := eq_of_beq e; cases this
  unfold PySem.W.kitOne
  rw [if_neg ne2]
  have e2 : PySem.W.kitMeta "ValueError" = true := by decide +kernel
  show (if PySem.W.kitMeta "ValueError" = true then _ else none) = some true
  rw [if_pos e2]
  exact h4
theorem exm_cl {K : PySem.W.Frag} {C D : Addr} (h1 : PySem.W.subIn K (.ref D) (.type "BaseException") = some true) (h2 : PySem.W.isClsIn K D = true) (h3 : PySem.W.typeIn K (.ref D) = some (.type "type")) (h4 : PySem.W.subIn K (.ref C) (.ref D) = some true) : PySem.W.exmOne K (.ref C) (.ref D) = some true := by
  have e1 : (PySem.W.subIn K (.ref D) (.type "BaseException") == some true) = true := by rw [h1] <;> rfl
  show (if (PySem.W.subIn K (.ref D) (.type "BaseException") == some true) = true then PySem.W.kitCls K (.ref C) (.ref D) else none) = some true
  rw [if_pos e1]
  exact kit_cl h2 h3 h4
set_option maxHeartbeats 4000000 in
theorem all_mk {l : PySem.W.OpenLaw} {w : World} {K : PySem.W.Frag} {h : Heap} {mg : Str → Option Value} {fa f0 f1 f2 f3 f4 f5 f6 f7 f8 f9 f10 f11 f12 f13 f14 f15 f16 f17 f18 CPensionError CBadNumber CBadDay CNoName CClash CFull CRefused CTooFar CTooLarge CTooMuch CBadLine CNoUndo : Addr} (X : K.In h) (G : h.Ns mainGlobals mg) (hfa : mg "law" = some (.ref fa))
    {od0 od1 od2 od3 od4 od5 od6 od7 od8 od9 od10 od11 od12 od13 od14 od15 od16 od17 od18 an0 an1 an2 an3 an4 an5 an6 an7 an8 an9 an10 an11 an12 an13 an14 an15 an16 an17 an18 : Option Addr} {sl0 sl1 sl2 sl3 sl4 sl5 sl6 sl7 sl8 sl9 sl10 sl11 sl12 sl13 sl14 sl15 sl16 sl17 sl18 : Array (Option Value)} {oc0 oc1 oc2 oc3 oc4 oc5 oc6 oc7 oc8 oc9 oc10 oc11 oc12 oc13 oc14 oc15 oc16 oc17 oc18 kV0 kV1 kV2 kV3 kV4 kV5 kV6 kV7 kV8 kV9 kV10 kV11 kV12 kV13 kV14 kV15 kV16 kV17 kV18 dc0 dc1 dc2 dc3 dc4 dc5 dc6 dc7 dc8 dc9 dc10 dc11 dc12 dc13 dc14 dc15 dc16 dc17 dc18 pm0 pm1 pm2 pm3 pm4 pm5 pm6 pm7 pm8 pm9 pm10 pm11 pm12 pm13 pm14 pm15 pm16 pm17 pm18 cd0 cd1 cd2 cd3 cd4 cd5 cd6 cd7 cd8 cd9 cd10 cd11 cd12 cd13 cd14 cd15 cd16 cd17 cd18 ct0 ct1 ct2 ct3 ct4 ct5 ct6 ct7 ct8 ct9 ct10 ct11 ct12 ct13 ct14 ct15 ct16 ct17 ct18 : Value} {t0 t1 t2 : Tok} {nmBadNumber qBadNumber : Str} {NBadNumber dIBadNumber : Addr} {bsBadNumber bmBadNumber subBadNumber : List Value} {snBadNumber : List Str} {abBadNumber : Bool} {colBadNumber : Option Bool} {ddBadNumber odIBadNumber anIBadNumber : Option Addr} {m0BadNumber m1BadNumber m2BadNumber m3BadNumber m5BadNumber : Option Value} {slIBadNumber : Array (Option Value)} {ocIBadNumber kVIBadNumber dcIBadNumber pmIBadNumber cdIBadNumber ctIBadNumber : Value}
    (a0 : PySem.W.nsIn K mainGlobals "check_kinds" = some (some (.ref f0)))
    (l0 : K.lookup f0 = some ⟨oc0, od0, .func (PySem.W.fnOf "check_kinds" "check_kinds" (defArgs s_check_kinds) (defBody s_check_kinds) (defScope s_check_kinds) .none kV0 dc0 pm0 an0 cd0 ct0), sl0⟩)
    (c0 : PySem.W.codeIn K cd0 "check_kinds" = true)
    (k0 : PySem.W.keepIn K (.ref f0) = true)
    (a1 : PySem.W.nsIn K mainGlobals "pieces_up_to" = some (some (.ref f1)))
    (l1 : K.lookup f1 = some ⟨oc1, od1, .func (PySem.W.fnOf "pieces_up_to" "pieces_up_to" (defArgs s_pieces_up_to) (defBody s_pieces_up_to) (defScope s_pieces_up_to) .none kV1 dc1 pm1 an1 cd1 ct1), sl1⟩)
    (c1 : PySem.W.codeIn K cd1 "pieces_up_to" = true)
    (k1 : PySem.W.keepIn K (.ref f1) = true)
    (a2 : PySem.W.nsIn K mainGlobals "worths" = some (some (.ref f2)))
    (l2 : K.lookup f2 = some ⟨oc2, od2, .func (PySem.W.fnOf "worths" "worths" (defArgs s_worths) (defBody s_worths) (defScope s_worths) .none kV2 dc2 pm2 an2 cd2 ct2), sl2⟩)
    (c2 : PySem.W.codeIn K cd2 "worths" = true)
    (k2 : PySem.W.keepIn K (.ref f2) = true)
    (a3 : PySem.W.nsIn K mainGlobals "least_stock" = some (some (.ref f3)))
    (l3 : K.lookup f3 = some ⟨oc3, od3, .func (PySem.W.fnOf "least_stock" "least_stock" (defArgs s_least_stock) (defBody s_least_stock) (defScope s_least_stock) .none kV3 dc3 pm3 an3 cd3 ct3), sl3⟩)
    (c3 : PySem.W.codeIn K cd3 "least_stock" = true)
    (k3 : PySem.W.keepIn K (.ref f3) = true)
    (a4 : PySem.W.nsIn K mainGlobals "_law_pool" = some (some (.ref f4)))
    (l4 : K.lookup f4 = some ⟨oc4, od4, .func (PySem.W.fnOf "_law_pool" "_law_pool" (defArgs s__law_pool) (defBody s__law_pool) (defScope s__law_pool) .none kV4 dc4 pm4 an4 cd4 ct4), sl4⟩)
    (c4 : PySem.W.codeIn K cd4 "_law_pool" = true)
    (k4 : PySem.W.keepIn K (.ref f4) = true)
    (a5 : PySem.W.nsIn K mainGlobals "_law_mix" = some (some (.ref f5)))
    (l5 : K.lookup f5 = some ⟨oc5, od5, .func (PySem.W.fnOf "_law_mix" "_law_mix" (defArgs s__law_mix) (defBody s__law_mix) (defScope s__law_mix) .none kV5 dc5 pm5 an5 cd5 ct5), sl5⟩)
    (c5 : PySem.W.codeIn K cd5 "_law_mix" = true)
    (k5 : PySem.W.keepIn K (.ref f5) = true)
    (a6 : PySem.W.nsIn K mainGlobals "_law_draw" = some (some (.ref f6)))
    (l6 : K.lookup f6 = some ⟨oc6, od6, .func (PySem.W.fnOf "_law_draw" "_law_draw" (defArgs s__law_draw) (defBody s__law_draw) (defScope s__law_draw) .none kV6 dc6 pm6 an6 cd6 ct6), sl6⟩)
    (c6 : PySem.W.codeIn K cd6 "_law_draw" = true)
    (k6 : PySem.W.keepIn K (.ref f6) = true)
    (a7 : PySem.W.nsIn K mainGlobals "_law_pick" = some (some (.ref f7)))
    (l7 : K.lookup f7 = some ⟨oc7, od7, .func (PySem.W.fnOf "_law_pick" "_law_pick" (defArgs s__law_pick) (defBody s__law_pick) (defScope s__law_pick) .none kV7 dc7 pm7 an7 cd7 ct7), sl7⟩)
    (c7 : PySem.W.codeIn K cd7 "_law_pick" = true)
    (k7 : PySem.W.keepIn K (.ref f7) = true)
    (a8 : PySem.W.nsIn K mainGlobals "_law_whole" = some (some (.ref f8)))
    (l8 : K.lookup f8 = some ⟨oc8, od8, .func (PySem.W.fnOf "_law_whole" "_law_whole" (defArgs s__law_whole) (defBody s__law_whole) (defScope s__law_whole) .none kV8 dc8 pm8 an8 cd8 ct8), sl8⟩)
    (c8 : PySem.W.codeIn K cd8 "_law_whole" = true)
    (k8 : PySem.W.keepIn K (.ref f8) = true)
    (a9 : PySem.W.nsIn K mainGlobals "_law_same" = some (some (.ref f9)))
    (l9 : K.lookup f9 = some ⟨oc9, od9, .func (PySem.W.fnOf "_law_same" "_law_same" (defArgs s__law_same) (defBody s__law_same) (defScope s__law_same) .none kV9 dc9 pm9 an9 cd9 ct9), sl9⟩)
    (c9 : PySem.W.codeIn K cd9 "_law_same" = true)
    (k9 : PySem.W.keepIn K (.ref f9) = true)
    (a10 : PySem.W.nsIn K mainGlobals "_law_error" = some (some (.ref f10)))
    (l10 : K.lookup f10 = some ⟨oc10, od10, .func (PySem.W.fnOf "_law_error" "_law_error" (defArgs s__law_error) (defBody s__law_error) (defScope s__law_error) .none kV10 dc10 pm10 an10 cd10 ct10), sl10⟩)
    (c10 : PySem.W.codeIn K cd10 "_law_error" = true)
    (k10 : PySem.W.keepIn K (.ref f10) = true)
    (a11 : PySem.W.nsIn K mainGlobals "_law_drawn_lacks" = some (some (.ref f11)))
    (l11 : K.lookup f11 = some ⟨oc11, od11, .func (PySem.W.fnOf "_law_drawn_lacks" "_law_drawn_lacks" (defArgs s__law_drawn_lacks) (defBody s__law_drawn_lacks) (defScope s__law_drawn_lacks) .none kV11 dc11 pm11 an11 cd11 ct11), sl11⟩)
    (c11 : PySem.W.codeIn K cd11 "_law_drawn_lacks" = true)
    (k11 : PySem.W.keepIn K (.ref f11) = true)
    (a12 : PySem.W.nsIn K mainGlobals "_law_drawn_kinds" = some (some (.ref f12)))
    (l12 : K.lookup f12 = some ⟨oc12, od12, .func (PySem.W.fnOf "_law_drawn_kinds" "_law_drawn_kinds" (defArgs s__law_drawn_kinds) (defBody s__law_drawn_kinds) (defScope s__law_drawn_kinds) .none kV12 dc12 pm12 an12 cd12 ct12), sl12⟩)
    (c12 : PySem.W.codeIn K cd12 "_law_drawn_kinds" = true)
    (k12 : PySem.W.keepIn K (.ref f12) = true)
    (a13 : PySem.W.nsIn K mainGlobals "_law_amounts" = some (some (.ref f13)))
    (l13 : K.lookup f13 = some ⟨oc13, od13, .func (PySem.W.fnOf "_law_amounts" "_law_amounts" (defArgs s__law_amounts) (defBody s__law_amounts) (defScope s__law_amounts) .none kV13 dc13 pm13 an13 cd13 ct13), sl13⟩)
    (c13 : PySem.W.codeIn K cd13 "_law_amounts" = true)
    (k13 : PySem.W.keepIn K (.ref f13) = true)
    (a14 : PySem.W.nsIn K mainGlobals "_law_answer" = some (some (.ref f14)))
    (l14 : K.lookup f14 = some ⟨oc14, od14, .func (PySem.W.fnOf "_law_answer" "_law_answer" (defArgs s__law_answer) (defBody s__law_answer) (defScope s__law_answer) .none kV14 dc14 pm14 an14 cd14 ct14), sl14⟩)
    (c14 : PySem.W.codeIn K cd14 "_law_answer" = true)
    (k14 : PySem.W.keepIn K (.ref f14) = true)
    (a15 : PySem.W.nsIn K mainGlobals "_law_asked" = some (some (.ref f15)))
    (l15 : K.lookup f15 = some ⟨oc15, od15, .func (PySem.W.fnOf "_law_asked" "_law_asked" (defArgs s__law_asked) (defBody s__law_asked) (defScope s__law_asked) .none kV15 dc15 pm15 an15 cd15 ct15), sl15⟩)
    (c15 : PySem.W.codeIn K cd15 "_law_asked" = true)
    (k15 : PySem.W.keepIn K (.ref f15) = true)
    (a16 : PySem.W.nsIn K mainGlobals "_law_bad_kind" = some (some (.ref f16)))
    (l16 : K.lookup f16 = some ⟨oc16, od16, .func (PySem.W.fnOf "_law_bad_kind" "_law_bad_kind" (defArgs s__law_bad_kind) (defBody s__law_bad_kind) (defScope s__law_bad_kind) .none kV16 dc16 pm16 an16 cd16 ct16), sl16⟩)
    (c16 : PySem.W.codeIn K cd16 "_law_bad_kind" = true)
    (k16 : PySem.W.keepIn K (.ref f16) = true)
    (a17 : PySem.W.nsIn K mainGlobals "_law_refused" = some (some (.ref f17)))
    (l17 : K.lookup f17 = some ⟨oc17, od17, .func (PySem.W.fnOf "_law_refused" "_law_refused" (defArgs s__law_refused) (defBody s__law_refused) (defScope s__law_refused) .none kV17 dc17 pm17 an17 cd17 ct17), sl17⟩)
    (c17 : PySem.W.codeIn K cd17 "_law_refused" = true)
    (k17 : PySem.W.keepIn K (.ref f17) = true)
    (a18 : PySem.W.nsIn K mainGlobals "law" = some (some (.ref f18)))
    (l18 : K.lookup f18 = some ⟨oc18, od18, .func (PySem.W.fnOf "law" "law" (defArgs s_law) (defBody s_law) (defScope s_law) .none kV18 dc18 pm18 an18 cd18 ct18), sl18⟩)
    (c18 : PySem.W.codeIn K cd18 "law" = true)
    (k18 : PySem.W.keepIn K (.ref f18) = true)
    (cst0 : PySem.W.nsIn K mainGlobals "MOST_KINDS" = some (some (.int 20 t0)))
    (cst1 : PySem.W.nsIn K mainGlobals "MOST_PRICE" = some (some (.int 1000 t1)))
    (cst2 : PySem.W.nsIn K mainGlobals "MOST_SUPPLY" = some (some (.int 2000 t2)))
    (hPensionError : PySem.W.nsIn K mainGlobals "PensionError" = some (some (.ref CPensionError)))
    (hBadNumber : PySem.W.nsIn K mainGlobals "BadNumber" = some (some (.ref CBadNumber)))
    (hBadDay : PySem.W.nsIn K mainGlobals "BadDay" = some (some (.ref CBadDay)))
    (hNoName : PySem.W.nsIn K mainGlobals "NoName" = some (some (.ref CNoName)))
    (hClash : PySem.W.nsIn K mainGlobals "Clash" = some (some (.ref CClash)))
    (hFull : PySem.W.nsIn K mainGlobals "Full" = some (some (.ref CFull)))
    (hRefused : PySem.W.nsIn K mainGlobals "Refused" = some (some (.ref CRefused)))
    (hTooFar : PySem.W.nsIn K mainGlobals "TooFar" = some (some (.ref CTooFar)))
    (hTooLarge : PySem.W.nsIn K mainGlobals "TooLarge" = some (some (.ref CTooLarge)))
    (hTooMuch : PySem.W.nsIn K mainGlobals "TooMuch" = some (some (.ref CTooMuch)))
    (hBadLine : PySem.W.nsIn K mainGlobals "BadLine" = some (some (.ref CBadLine)))
    (hNoUndo : PySem.W.nsIn K mainGlobals "NoUndo" = some (some (.ref CNoUndo)))
    (iPensionError : PySem.W.isClsIn K CPensionError = true)
    (yPensionError : PySem.W.typeIn K (.ref CPensionError) = some (.type "type"))
    (iBadNumber : PySem.W.isClsIn K CBadNumber = true)
    (yBadNumber : PySem.W.typeIn K (.ref CBadNumber) = some (.type "type"))
    (iBadDay : PySem.W.isClsIn K CBadDay = true)
    (yBadDay : PySem.W.typeIn K (.ref CBadDay) = some (.type "type"))
    (iNoName : PySem.W.isClsIn K CNoName = true)
    (yNoName : PySem.W.typeIn K (.ref CNoName) = some (.type "type"))
    (iClash : PySem.W.isClsIn K CClash = true)
    (yClash : PySem.W.typeIn K (.ref CClash) = some (.type "type"))
    (iFull : PySem.W.isClsIn K CFull = true)
    (yFull : PySem.W.typeIn K (.ref CFull) = some (.type "type"))
    (iRefused : PySem.W.isClsIn K CRefused = true)
    (yRefused : PySem.W.typeIn K (.ref CRefused) = some (.type "type"))
    (iTooFar : PySem.W.isClsIn K CTooFar = true)
    (yTooFar : PySem.W.typeIn K (.ref CTooFar) = some (.type "type"))
    (iTooLarge : PySem.W.isClsIn K CTooLarge = true)
    (yTooLarge : PySem.W.typeIn K (.ref CTooLarge) = some (.type "type"))
    (iTooMuch : PySem.W.isClsIn K CTooMuch = true)
    (yTooMuch : PySem.W.typeIn K (.ref CTooMuch) = some (.type "type"))
    (iBadLine : PySem.W.isClsIn K CBadLine = true)
    (yBadLine : PySem.W.typeIn K (.ref CBadLine) = some (.type "type"))
    (iNoUndo : PySem.W.isClsIn K CNoUndo = true)
    (yNoUndo : PySem.W.typeIn K (.ref CNoUndo) = some (.type "type"))
    (eP : PySem.W.subIn K (.ref CPensionError) (.type "BaseException") = some true)
    (n1 : PySem.W.specialIn K (.builtin "object.__class__") "__get__" = some (some (.builtin "getset_descriptor.__get__")))
    (n2 : PySem.W.takesIn K (.builtin "object.__class__") = some true)
    (xLBadNumber : K.lookup CBadNumber = some (excClassObj nmBadNumber qBadNumber CBadNumber NBadNumber bsBadNumber bmBadNumber true snBadNumber subBadNumber abBadNumber colBadNumber ddBadNumber m0BadNumber m1BadNumber m2BadNumber m3BadNumber m5BadNumber "ValueError.__new__"))
    (rBBadNumber : PySem.HandSPX.refsVE bmBadNumber = true)
    (saBadNumber : PySem.W.findIn K (.ref CBadNumber) "__setattr__" = some (some (.builtin "object.__setattr__")))
    (gaBadNumber : PySem.W.findIn K (.ref CBadNumber) "__getattribute__" = some (some (.builtin "BaseException.__getattribute__")))
    (ggBadNumber : PySem.W.findIn K (.ref CBadNumber) "__getattr__" = some none)
    (gcBadNumber : PySem.W.findIn K (.ref CBadNumber) "__class__" = some (some (.builtin "object.__class__")))
    (nbBadNumber : PySem.W.findIn K (.ref CBadNumber) "field" = some none)
    (nIBadNumber : PySem.W.findIn K (.ref CBadNumber) "__init__" = some (some (.ref dIBadNumber)))
    (tIBadNumber : PySem.W.typeIn K (.ref dIBadNumber) = some (.type "function"))
    (lIBadNumber : K.lookup dIBadNumber = some ⟨ocIBadNumber, odIBadNumber, .func (PySem.W.fnOf "__init__" "BadNumber.__init__" (defArgs i_BadNumber) (defBody i_BadNumber) (defScope i_BadNumber) .none kVIBadNumber dcIBadNumber pmIBadNumber anIBadNumber cdIBadNumber ctIBadNumber), slIBadNumber⟩)
    (cIBadNumber : PySem.W.codeIn K cdIBadNumber "BadNumber.__init__" = true)
    (kIBadNumber : PySem.W.keepIn K (.ref dIBadNumber) = true)
    (kCBadNumber : PySem.W.keepIn K (.ref CBadNumber) = true)
    (eCBadNumber : PySem.W.subIn K (.ref CBadNumber) (.type "BaseException") = some true)
    (vCBadNumber : PySem.W.subIn K (.ref CBadNumber) (.type "ValueError") = some true)
    (hCBadNumber : PySem.W.hasDictIn K CBadNumber = true)
    (mOBadNumber : PySem.W.mroIn K CBadNumber (.type "object") = some true)
    (sBadNumber_PensionError : PySem.W.subIn K (.ref CBadNumber) (.ref CPensionError) = some true)
    (sBadNumber_BadNumber : PySem.W.subIn K (.ref CBadNumber) (.ref CBadNumber) = some true)
    (sBadNumber_BadDay : PySem.W.subIn K (.ref CBadNumber) (.ref CBadDay) = some false)
    (sBadNumber_NoName : PySem.W.subIn K (.ref CBadNumber) (.ref CNoName) = some false)
    (sBadNumber_Clash : PySem.W.subIn K (.ref CBadNumber) (.ref CClash) = some false)
    (sBadNumber_Full : PySem.W.subIn K (.ref CBadNumber) (.ref CFull) = some false)
    (sBadNumber_Refused : PySem.W.subIn K (.ref CBadNumber) (.ref CRefused) = some false)
    (sBadNumber_TooFar : PySem.W.subIn K (.ref CBadNumber) (.ref CTooFar) = some false)
    (sBadNumber_TooLarge : PySem.W.subIn K (.ref CBadNumber) (.ref CTooLarge) = some false)
    (sBadNumber_TooMuch : PySem.W.subIn K (.ref CBadNumber) (.ref CTooMuch) = some false)
    (sBadNumber_BadLine : PySem.W.subIn K (.ref CBadNumber) (.ref CBadLine) = some false)
    (sBadNumber_NoUndo : PySem.W.subIn K (.ref CBadNumber) (.ref CNoUndo) = some false)
    (z0 : PySem.W.nsIn K mainGlobals "len" = some none)
    (z1 : PySem.W.nsIn K mainGlobals "abs" = some none)
    (z2 : PySem.W.nsIn K mainGlobals "int" = some none)
    (z3 : PySem.W.nsIn K mainGlobals "sum" = some none)
    (z4 : PySem.W.nsIn K mainGlobals "max" = some none)
    (z5 : PySem.W.nsIn K mainGlobals "min" = some none)
    (z6 : PySem.W.nsIn K mainGlobals "range" = some none)
    (z7 : PySem.W.nsIn K mainGlobals "enumerate" = some none)
    (z8 : PySem.W.nsIn K mainGlobals "zip" = some none)
    (z9 : PySem.W.nsIn K mainGlobals "list" = some none)
    (z10 : PySem.W.nsIn K mainGlobals "isinstance" = some none)
    (z11 : PySem.W.nsIn K mainGlobals "bool" = some none)
    (z12 : PySem.W.nsIn K mainGlobals "str" = some none)
    (z13 : PySem.W.nsIn K mainGlobals "dict" = some none)
    (z14 : PySem.W.nsIn K mainGlobals "tuple" = some none)
    (z15 : PySem.W.nsIn K mainGlobals "sorted" = some none)
    (z16 : PySem.W.nsIn K mainGlobals "ValueError" = some none) :
    ∃ fd : FuncData, (∀ (s : Shared) (v : Value), BindsTo s fd ⟨[v], []⟩ [("script", v)]) ∧ ∀ base : Heap, K.In base → base.Ns mainGlobals mg → FnOk l.prog w K mg base CX0 8 fa fd ["script"] (spT K (allSh 1) W_law) := by
  have e := hfa.symm.trans (PySem.W.mg_of X G a18)
  cases e
  have F0 := fun_mk (st := s_check_kinds) l0 c0 k0
  have b0 := F0.binds (ps := ["lacks", "kinds"]) fun _ _ _ _ _ _ us hl => match us, hl with | [_, _], _ => rfl
  have F1 := fun_mk (st := s_pieces_up_to) l1 c1 k1
  have b1 := F1.binds (ps := ["kinds", "amounts", "k"]) fun _ _ _ _ _ _ us hl => match us, hl with | [_, _, _], _ => rfl
  have F2 := fun_mk (st := s_worths) l2 c2 k2
  have b2 := F2.binds (ps := ["lacks", "kinds", "amounts"]) fun _ _ _ _ _ _ us hl => match us, hl with | [_, _, _], _ => rfl
  have F3 := fun_mk (st := s_least_stock) l3 c3 k3
  have b3 := F3.binds (ps := ["lacks", "kinds"]) fun _ _ _ _ _ _ us hl => match us, hl with | [_, _], _ => rfl
  have F4 := fun_mk (st := s__law_pool) l4 c4 k4
  have b4 := F4.binds (ps := ["script", "at", "salt"]) fun _ _ _ _ _ _ us hl => match us, hl with | [_, _, _], _ => rfl
  have F5 := fun_mk (st := s__law_mix) l5 c5 k5
  have b5 := F5.binds (ps := ["seed", "turn"]) fun _ _ _ _ _ _ us hl => match us, hl with | [_, _], _ => rfl
  have F6 := fun_mk (st := s__law_draw) l6 c6 k6
  have b6 := F6.binds (ps := ["pool", "many"]) fun _ _ _ _ _ _ us hl => match us, hl with | [_, _], _ => rfl
  have F7 := fun_mk (st := s__law_pick) l7 c7 k7
  have b7 := F7.binds (ps := ["pool", "row"]) fun _ _ _ _ _ _ us hl => match us, hl with | [_, _], _ => rfl
  have F8 := fun_mk (st := s__law_whole) l8 c8 k8
  have b8 := F8.binds (ps := ["thing"]) fun _ _ _ _ _ _ us hl => match us, hl with | [_], _ => rfl
  have F9 := fun_mk (st := s__law_same) l9 c9 k9
  have b9 := F9.binds (ps := ["told", "due"]) fun _ _ _ _ _ _ us hl => match us, hl with | [_, _], _ => rfl
  have F10 := fun_mk (st := s__law_error) l10 c10 k10
  have b10 := F10.binds (ps := ["e"]) fun _ _ _ _ _ _ us hl => match us, hl with | [_], _ => rfl
  have F11 := fun_mk (st := s__law_drawn_lacks) l11 c11 k11
  have b11 := F11.binds (ps := ["pool"]) fun _ _ _ _ _ _ us hl => match us, hl with | [_], _ => rfl
  have F12 := fun_mk (st := s__law_drawn_kinds) l12 c12 k12
  have b12 := F12.binds (ps := ["pool", "size"]) fun _ _ _ _ _ _ us hl => match us, hl with | [_, _], _ => rfl
  have F13 := fun_mk (st := s__law_amounts) l13 c13 k13
  have b13 := F13.binds (ps := ["lacks", "kinds"]) fun _ _ _ _ _ _ us hl => match us, hl with | [_, _], _ => rfl
  have F14 := fun_mk (st := s__law_answer) l14 c14 k14
  have b14 := F14.binds (ps := ["lacks", "kinds"]) fun _ _ _ _ _ _ us hl => match us, hl with | [_, _], _ => rfl
  have F15 := fun_mk (st := s__law_asked) l15 c15 k15
  have b15 := F15.binds (ps := ["lacks", "kinds"]) fun _ _ _ _ _ _ us hl => match us, hl with | [_, _], _ => rfl
  have F16 := fun_mk (st := s__law_bad_kind) l16 c16 k16
  have b16 := F16.binds (ps := ["pool", "size"]) fun _ _ _ _ _ _ us hl => match us, hl with | [_, _], _ => rfl
  have F17 := fun_mk (st := s__law_refused) l17 c17 k17
  have b17 := F17.binds (ps := ["pool", "lacks", "kinds"]) fun _ _ _ _ _ _ us hl => match us, hl with | [_, _, _], _ => rfl
  have F18 := fun_mk (st := s_law) l18 c18 k18
  have b18 := F18.binds (ps := ["script"]) fun _ _ _ _ _ _ us hl => match us, hl with | [_], _ => rfl
  have FIBadNumber := fun_mk (st := i_BadNumber) lIBadNumber cIBadNumber kIBadNumber
  have bIBadNumber := FIBadNumber.binds (ps := ["self", "field"]) fun _ _ _ _ _ _ us hl => match us, hl with | [_, _], _ => rfl
  let xxBadNumber : XC1 K mg "BadNumber" "BadNumber.__init__" "field" i_BadNumber := ⟨CBadNumber, dIBadNumber, _, PySem.W.mg_of X G hBadNumber, ⟨⟨_, _, _, _, _, _, _, _, _, _, _, _, _, _, _, xLBadNumber, rBBadNumber⟩, saBadNumber, eCBadNumber, yBadNumber, kCBadNumber⟩, nIBadNumber, tIBadNumber, FIBadNumber, bIBadNumber, nbBadNumber⟩
  let GG : Gs K mg := {
    g_check_kinds := ⟨_, _, F0, b0, PySem.W.mg_of X G a0⟩
    g_pieces_up_to := ⟨_, _, F1, b1, PySem.W.mg_of X G a1⟩
    g_worths := ⟨_, _, F2, b2, PySem.W.mg_of X G a2⟩
    g_least_stock := ⟨_, _, F3, b3, PySem.W.mg_of X G a3⟩
    g__law_pool := ⟨_, _, F4, b4, PySem.W.mg_of X G a4⟩
    g__law_mix := ⟨_, _, F5, b5, PySem.W.mg_of X G a5⟩
    g__law_draw := ⟨_, _, F6, b6, PySem.W.mg_of X G a6⟩
    g__law_pick := ⟨_, _, F7, b7, PySem.W.mg_of X G a7⟩
    g__law_whole := ⟨_, _, F8, b8, PySem.W.mg_of X G a8⟩
    g__law_same := ⟨_, _, F9, b9, PySem.W.mg_of X G a9⟩
    g__law_error := ⟨_, _, F10, b10, PySem.W.mg_of X G a10⟩
    g__law_drawn_lacks := ⟨_, _, F11, b11, PySem.W.mg_of X G a11⟩
    g__law_drawn_kinds := ⟨_, _, F12, b12, PySem.W.mg_of X G a12⟩
    g__law_amounts := ⟨_, _, F13, b13, PySem.W.mg_of X G a13⟩
    g__law_answer := ⟨_, _, F14, b14, PySem.W.mg_of X G a14⟩
    g__law_asked := ⟨_, _, F15, b15, PySem.W.mg_of X G a15⟩
    g__law_bad_kind := ⟨_, _, F16, b16, PySem.W.mg_of X G a16⟩
    g__law_refused := ⟨_, _, F17, b17, PySem.W.mg_of X G a17⟩
    g_law := ⟨_, _, F18, b18, PySem.W.mg_of X G a18⟩
    z_len := PySem.W.mg_none_of X G z0
    z_abs := PySem.W.mg_none_of X G z1
    z_int := PySem.W.mg_none_of X G z2
    z_sum := PySem.W.mg_none_of X G z3
    z_max := PySem.W.mg_none_of X G z4
    z_min := PySem.W.mg_none_of X G z5
    z_range := PySem.W.mg_none_of X G z6
    z_enumerate := PySem.W.mg_none_of X G z7
    z_zip := PySem.W.mg_none_of X G z8
    z_list := PySem.W.mg_none_of X G z9
    z_isinstance := PySem.W.mg_none_of X G z10
    z_bool := PySem.W.mg_none_of X G z11
    z_str := PySem.W.mg_none_of X G z12
    z_dict := PySem.W.mg_none_of X G z13
    z_tuple := PySem.W.mg_none_of X G z14
    z_sorted := PySem.W.mg_none_of X G z15
    z_ValueError := PySem.W.mg_none_of X G z16
    c_kinds := ⟨_, PySem.W.mg_of X G cst0⟩
    c_price := ⟨_, PySem.W.mg_of X G cst1⟩
    c_supply := ⟨_, PySem.W.mg_of X G cst2⟩
    a_PensionError := CPensionError
    ga_PensionError := PySem.W.mg_of X G hPensionError
    a_BadNumber := CBadNumber
    ga_BadNumber := PySem.W.mg_of X G hBadNumber
    a_BadDay := CBadDay
    ga_BadDay := PySem.W.mg_of X G hBadDay
    a_NoName := CNoName
    ga_NoName := PySem.W.mg_of X G hNoName
    a_Clash := CClash
    ga_Clash := PySem.W.mg_of X G hClash
    a_Full := CFull
    ga_Full := PySem.W.mg_of X G hFull
    a_Refused := CRefused
    ga_Refused := PySem.W.mg_of X G hRefused
    a_TooFar := CTooFar
    ga_TooFar := PySem.W.mg_of X G hTooFar
    a_TooLarge := CTooLarge
    ga_TooLarge := PySem.W.mg_of X G hTooLarge
    a_TooMuch := CTooMuch
    ga_TooMuch := PySem.W.mg_of X G hTooMuch
    a_BadLine := CBadLine
    ga_BadLine := PySem.W.mg_of X G hBadLine
    a_NoUndo := CNoUndo
    ga_NoUndo := PySem.W.mg_of X G hNoUndo
    x_BadNumber := xxBadNumber
    e_BadNumber := rfl
    ex_BadNumber := ⟨gaBadNumber, ggBadNumber, eCBadNumber, hCBadNumber, gcBadNumber, n1, n2, mOBadNumber⟩
    xf_BadNumber := ⟨gaBadNumber, ggBadNumber, eCBadNumber, hCBadNumber⟩
    cp_BadNumber := exm_cl eP iPensionError yPensionError sBadNumber_PensionError
    k_BadNumber_BadNumber := kit_self
    k_BadNumber_BadDay := kit_no sBadNumber_BadNumber iBadDay yBadDay sBadNumber_BadDay
    k_BadNumber_NoName := kit_no sBadNumber_BadNumber iNoName yNoName sBadNumber_NoName
    k_BadNumber_Clash := kit_no sBadNumber_BadNumber iClash yClash sBadNumber_Clash
    k_BadNumber_Full := kit_no sBadNumber_BadNumber iFull yFull sBadNumber_Full
    k_BadNumber_Refused := kit_no sBadNumber_BadNumber iRefused yRefused sBadNumber_Refused
    k_BadNumber_TooFar := kit_no sBadNumber_BadNumber iTooFar yTooFar sBadNumber_TooFar
    k_BadNumber_TooLarge := kit_no sBadNumber_BadNumber iTooLarge yTooLarge sBadNumber_TooLarge
    k_BadNumber_TooMuch := kit_no sBadNumber_BadNumber iTooMuch yTooMuch sBadNumber_TooMuch
    k_BadNumber_BadLine := kit_no sBadNumber_BadNumber iBadLine yBadLine sBadNumber_BadLine
    k_BadNumber_NoUndo := kit_no sBadNumber_BadNumber iNoUndo yNoUndo sBadNumber_NoUndo
    k_BadNumber_VE := kit_VE vCBadNumber }
  exact ⟨_, fun s v => .of_eq (fd := PySem.W.fnOf "law" "law" (defArgs s_law) (defBody s_law) (defScope s_law) .none kV18 dc18 pm18 an18 cd18 ct18) rfl, fun base _ _ => ok_law (k := 0) GG⟩
end K89
open PySem PySem.W PyProof.Rows
set_option maxHeartbeats 0 in
theorem PySem.Challenge.cw_pensionhall_k89_least_stock_holds : PySem.Challenge.rw_pensionhall_k89_least_stock.Holds := by
  w_on; o_law; k_head; (case hw => w_witness2)
  k_fill
  refine L2.walk_of (l := PySem.Challenge.rw_pensionhall_k89_least_stock) (n := 63) (k := 8) (x := "script") (CX := fun _ => L2.CX0) (sp := fun w => TL.spT _ (TL.allSh 1) K89.W_law) rfl (by decide) rfl ⟨rfl, by decide, by decide⟩ (fun w h Y => PySem.W.kIn_of Y) ?F (fun _ _ a ns hl hO hS => K89.law_sp hO hS) (fun _ _ _ _ _ h => h)
  case F =>
    intro w mg fa h KX G hmg
    refine' K89.all_mk KX G hmg ?a0 ?l0 ?c0 ?k0 ?a1 ?l1 ?c1 ?k1 ?a2 ?l2 ?c2 ?k2 ?a3 ?l3 ?c3 ?k3 ?a4 ?l4 ?c4 ?k4 ?a5 ?l5 ?c5 ?k5 ?a6 ?l6 ?c6 ?k6 ?a7 ?l7 ?c7 ?k7 ?a8 ?l8 ?c8 ?k8 ?a9 ?l9 ?c9 ?k9 ?a10 ?l10 ?c10 ?k10 ?a11 ?l11 ?c11 ?k11 ?a12 ?l12 ?c12 ?k12 ?a13 ?l13 ?c13 ?k13 ?a14 ?l14 ?c14 ?k14 ?a15 ?l15 ?c15 ?k15 ?a16 ?l16 ?c16 ?k16 ?a17 ?l17 ?c17 ?k17 ?a18 ?l18 ?c18 ?k18 ?cst0 ?cst1 ?cst2 ?hPensionError ?hBadNumber ?hBadDay ?hNoName ?hClash ?hFull ?hRefused ?hTooFar ?hTooLarge ?hTooMuch ?hBadLine ?hNoUndo ?iPensionError ?yPensionError ?iBadNumber ?yBadNumber ?iBadDay ?yBadDay ?iNoName ?yNoName ?iClash ?yClash ?iFull ?yFull ?iRefused ?yRefused ?iTooFar ?yTooFar ?iTooLarge ?yTooLarge ?iTooMuch ?yTooMuch ?iBadLine ?yBadLine ?iNoUndo ?yNoUndo ?eP ?n1 ?n2 ?xLBadNumber ?rBBadNumber ?saBadNumber ?gaBadNumber ?ggBadNumber ?gcBadNumber ?nbBadNumber ?nIBadNumber ?tIBadNumber ?lIBadNumber ?cIBadNumber ?kIBadNumber ?kCBadNumber ?eCBadNumber ?vCBadNumber ?hCBadNumber ?mOBadNumber ?sBadNumber_PensionError ?sBadNumber_BadNumber ?sBadNumber_BadDay ?sBadNumber_NoName ?sBadNumber_Clash ?sBadNumber_Full ?sBadNumber_Refused ?sBadNumber_TooFar ?sBadNumber_TooLarge ?sBadNumber_TooMuch ?sBadNumber_BadLine ?sBadNumber_NoUndo ?z0 ?z1 ?z2 ?z3 ?z4 ?z5 ?z6 ?z7 ?z8 ?z9 ?z10 ?z11 ?z12 ?z13 ?z14 ?z15 ?z16
    (case a0 => k_is)
    (case l0 => k_is)
    (case c0 => k_is)
    (case k0 => k_is)
    (case a1 => k_is)
    (case l1 => k_is)
    (case c1 => k_is)
    (case k1 => k_is)
    (case a2 => k_is)
    (case l2 => k_is)
    (case c2 => k_is)
    (case k2 => k_is)
    (case a3 => k_is)
    (case l3 => k_is)
    (case c3 => k_is)
    (case k3 => k_is)
    (case a4 => k_is)
    (case l4 => k_is)
    (case c4 => k_is)
    (case k4 => k_is)
    (case a5 => k_is)
    (case l5 => k_is)
    (case c5 => k_is)
    (case k5 => k_is)
    (case a6 => k_is)
    (case l6 => k_is)
    (case c6 => k_is)
    (case k6 => k_is)
    (case a7 => k_is)
    (case l7 => k_is)
    (case c7 => k_is)
    (case k7 => k_is)
    (case a8 => k_is)
    (case l8 => k_is)
    (case c8 => k_is)
    (case k8 => k_is)
    (case a9 => k_is)
    (case l9 => k_is)
    (case c9 => k_is)
    (case k9 => k_is)
    (case a10 => k_is)
    (case l10 => k_is)
    (case c10 => k_is)
    (case k10 => k_is)
    (case a11 => k_is)
    (case l11 => k_is)
    (case c11 => k_is)
    (case k11 => k_is)
    (case a12 => k_is)
    (case l12 => k_is)
    (case c12 => k_is)
    (case k12 => k_is)
    (case a13 => k_is)
    (case l13 => k_is)
    (case c13 => k_is)
    (case k13 => k_is)
    (case a14 => k_is)
    (case l14 => k_is)
    (case c14 => k_is)
    (case k14 => k_is)
    (case a15 => k_is)
    (case l15 => k_is)
    (case c15 => k_is)
    (case k15 => k_is)
    (case a16 => k_is)
    (case l16 => k_is)
    (case c16 => k_is)
    (case k16 => k_is)
    (case a17 => k_is)
    (case l17 => k_is)
    (case c17 => k_is)
    (case k17 => k_is)
    (case a18 => k_is)
    (case l18 => k_is)
    (case c18 => k_is)
    (case k18 => k_is)
    (case cst0 => k_is)
    (case cst1 => k_is)
    (case cst2 => k_is)
    (case hPensionError => k_is)
    (case hBadNumber => k_is)
    (case hBadDay => k_is)
    (case hNoName => k_is)
    (case hClash => k_is)
    (case hFull => k_is)
    (case hRefused => k_is)
    (case hTooFar => k_is)
    (case hTooLarge => k_is)
    (case hTooMuch => k_is)
    (case hBadLine => k_is)
    (case hNoUndo => k_is)
    (case iPensionError => first | rfl | k_is)
    (case yPensionError => k_is)
    (case iBadNumber => first | rfl | k_is)
    (case yBadNumber => k_is)
    (case iBadDay => first | rfl | k_is)
    (case yBadDay => k_is)
    (case iNoName => first | rfl | k_is)
    (case yNoName => k_is)
    (case iClash => first | rfl | k_is)
    (case yClash => k_is)
    (case iFull => first | rfl | k_is)
    (case yFull => k_is)
    (case iRefused => first | rfl | k_is)
    (case yRefused => k_is)
    (case iTooFar => first | rfl | k_is)
    (case yTooFar => k_is)
    (case iTooLarge => first | rfl | k_is)
    (case yTooLarge => k_is)
    (case iTooMuch => first | rfl | k_is)
    (case yTooMuch => k_is)
    (case iBadLine => first | rfl | k_is)
    (case yBadLine => k_is)
    (case iNoUndo => first | rfl | k_is)
    (case yNoUndo => k_is)
    (case eP => k_is)
    (case n1 => k_is)
    (case n2 => k_is)
    (case xLBadNumber => k_is)
    (case rBBadNumber => decide +kernel)
    (case saBadNumber => first | rfl | k_is)
    (case gaBadNumber => k_is)
    (case ggBadNumber => k_is)
    (case gcBadNumber => k_is)
    (case nbBadNumber => k_is)
    (case nIBadNumber => k_is)
    (case tIBadNumber => k_is)
    (case lIBadNumber => k_is)
    (case cIBadNumber => k_is)
    (case kIBadNumber => k_is)
    (case kCBadNumber => k_is)
    (case eCBadNumber => k_is)
    (case vCBadNumber => k_is)
    (case hCBadNumber => k_is)
    (case mOBadNumber => k_is)
    (case sBadNumber_PensionError => first | rfl | k_is)
    (case sBadNumber_BadNumber => first | rfl | k_is)
    (case sBadNumber_BadDay => first | rfl | k_is)
    (case sBadNumber_NoName => first | rfl | k_is)
    (case sBadNumber_Clash => first | rfl | k_is)
    (case sBadNumber_Full => first | rfl | k_is)
    (case sBadNumber_Refused => first | rfl | k_is)
    (case sBadNumber_TooFar => first | rfl | k_is)
    (case sBadNumber_TooLarge => first | rfl | k_is)
    (case sBadNumber_TooMuch => first | rfl | k_is)
    (case sBadNumber_BadLine => first | rfl | k_is)
    (case sBadNumber_NoUndo => first | rfl | k_is)
    (case z0 => k_is)
    (case z1 => k_is)
    (case z2 => k_is)
    (case z3 => k_is)
    (case z4 => k_is)
    (case z5 => k_is)
    (case z6 => k_is)
    (case z7 => k_is)
    (case z8 => k_is)
    (case z9 => k_is)
    (case z10 => k_is)
    (case z11 => k_is)
    (case z12 => k_is)
    (case z13 => k_is)
    (case z14 => k_is)
    (case z15 => k_is)
    (case z16 => k_is)
