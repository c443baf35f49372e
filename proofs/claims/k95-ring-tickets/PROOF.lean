import PyProof.Rows.All
import HandS.Nested
import Wide.All
import OpenK.AllK
import Wide.FinOn
import HandS.ForMost
import HandS.Wide
import HandS.WideMore
import HandS.Walk
import HandS.IsInst
import HandS.Conv
import HandS.TupAny
import HandS.Exc
import HandS.ExcOwn
import HandS.WordsExc
import HandS.Style
import HandS.ExcCtx
import HandS.ExcInit
import HandS.ExcField
import HandS.HotCalls
import HandS.ExcIs
import KE.KExcIs
import HandS.SortRule
import HandS.Iter
import HandS.Dict
import HandS.WordsDict
import KE.GoesMore
import HandS.More
import HandS.DictComp
import KE.SortData
import HandS.Deep
import PySem.Challenge.RW_pensionhall_k95_ring_tickets
set_option Elab.async false
set_option linter.all false
/-! the names of the lambdas that may be made while the law runs, by their place -/
namespace TL
open PySem
def lamNm : Nat → Nat → Str := fun _ _ => "need_weight.<locals>.<lambda>"
end TL
set_option Elab.async false
set_option linter.all false
set_option maxRecDepth 100000
/-! TL: values as plain trees over HandS; lists are owned down to a depth. -/
namespace TL
open PySem PySem.Spec PyProof.Rows L2

/-! ### the tables of code objects: they alone may change without an owner -/
def NTbl (o : HO) : Prop := (∀ ps, o ≠ .tbl ps) ∧ ∀ φ, o ≠ .ext φ
theorem nt_lst {xs : List V} : NTbl (.lst xs) := ⟨fun _ z => (nomatch z), fun _ z => (nomatch z)⟩
theorem nt_tup {xs : List V} : NTbl (.tup xs) := ⟨fun _ z => (nomatch z), fun _ z => (nomatch z)⟩
theorem nt_dK {xs : List (Key × V)} : NTbl (.dK xs) := ⟨fun _ z => (nomatch z), fun _ z => (nomatch z)⟩
theorem nt_dT {xs : List (List Key × V)} : NTbl (.dT xs) := ⟨fun _ z => (nomatch z), fun _ z => (nomatch z)⟩
theorem nt_ins {C d : Addr} {xs : List (Str × V)} : NTbl (.ins C d xs) := ⟨fun _ z => (nomatch z), fun _ z => (nomatch z)⟩
theorem nt_own {x : Addr} : NTbl (.own x) := ⟨fun _ z => (nomatch z), fun _ z => (nomatch z)⟩
theorem nt_xd {xs : List (Str × V)} : NTbl (.xd xs) := ⟨fun _ z => (nomatch z), fun _ z => (nomatch z)⟩
theorem nt_frz {o : Obj} {u : HO} : NTbl (.frz o u) := ⟨fun _ z => (nomatch z), fun _ z => (nomatch z)⟩
/-- the tables tell code objects that stand -/
def TbOk (H : Hp) : Prop := ∀ P ps, H P = some (.tbl ps) → TriplesOk ps.toList ∧ ∀ (pos : Pos) (cv : Value), codeAmong pos ps.toList = some cv → ∃ c, cv = .ref c ∧ H c = some (LamX.CodeO c (lamNm pos.line pos.col))
theorem TbOk.upd {H : Hp} {a : Addr} {o : HO} (h : TbOk H) (ho : NTbl o) (ha : ∀ u, H a = some u → NTbl u) : TbOk (upd H a o) := fun P ps e => by
  by_cases hp : P = a
  · subst hp
    rw [upd_same] at e
    exact absurd (Option.some.inj e) (ho.1 ps)
  · rw [upd_ne hp] at e
    obtain ⟨h1, h2⟩ := h P ps e
    refine ⟨h1, fun pos cv hc => ?_⟩
    obtain ⟨c, e1, e2⟩ := h2 pos cv hc
    refine ⟨c, e1, ?_⟩
    rw [upd_ne fun z => (ha _ (z ▸ e2)).2 _ rfl]
    exact e2
/-- H' has all that H has; the tables may have grown -/
structure Same (H H' : Hp) : Prop where
  ex : ∀ b o, H b = some o → (∀ ps, o ≠ .tbl ps) → H' b = some o
  tbl : ∀ b ps, H b = some (.tbl ps) → ∃ ps', H' b = some (.tbl ps')
  tb : TbOk H → TbOk H'
theorem Same.refl (H : Hp) : Same H H := ⟨fun _ _ e _ => e, fun _ ps e => ⟨ps, e⟩, id⟩
theorem Same.trans {H H1 H2 : Hp} (a : Same H H1) (b : Same H1 H2) : Same H H2 := ⟨fun c o e n => b.ex c o (a.ex c o e n) n, fun c ps e => by
  obtain ⟨qs, e1⟩ := a.tbl c ps e
  exact b.tbl c qs e1, fun t => b.tb (a.tb t)⟩
theorem Same.free {H H' : Hp} (s : Same H H') {l : Addr} (h : H' l = none) : H l = none := by
  cases e : H l with
  | none => rfl
  | some o =>
    cases o with
    | tbl ps =>
      obtain ⟨qs, e1⟩ := s.tbl l ps e
      rw [e1] at h; cases h
    | _ => rw [s.ex l _ e (fun _ z => nomatch z)] at h; cases h
theorem Same.new {H : Hp} {p : Addr} {o : HO} (hp : H p = none) (ho : NTbl o) : Same H (upd H p o) :=
  ⟨fun b u e _ => by rw [upd_ne (ne_of_none e hp)]; exact e, fun b ps e => ⟨ps, by rw [upd_ne (ne_of_none e hp)]; exact e⟩, fun t => t.upd ho fun u e => by rw [hp] at e; cases e⟩
theorem Same.lst {H H' : Hp} (s : Same H H') {a : Addr} {xs : List V} (e : H a = some (.lst xs)) : H' a = some (.lst xs) := s.ex _ _ e (fun _ z => nomatch z)
theorem Same.seq {K : PySem.W.Frag} {H H' : Hp} {a : Addr} {xs : List V} (s : Same H H') (h : SqL K H a xs) : SqL K H' a xs := by
  rcases h with (h | ⟨o, h⟩) | h
  · exact .inl (.inl (s.lst h))
  · exact .inl (.inr ⟨o, s.ex _ _ h (fun _ z => nomatch z)⟩)
  · exact .inr h
/-! ### trees -/
/-- the kind of a node that may change: a list, a dict (its keys), an instance (its class, its attributes' names) -/
inductive NK where
  | lst | dK (ks : List Key) | dT (ks : List (List Key)) | ins (C : Addr) (ns : List Str)
/-- what stands in the heap of such a node -/
def NK.is : NK → HO → List V → Prop
  | .lst, o, vs => o = .lst vs
  | .dK ks, o, vs => ks.length = vs.length ∧ ks.Nodup ∧ o = .dK (ks.zip vs)
  | .dT ks, o, vs => ks.length = vs.length ∧ ks.Nodup ∧ o = .dT (ks.zip vs)
  | .ins C ns, o, vs => ns.length = vs.length ∧ ∃ dx, o = .ins C dx (ns.zip vs)
theorem NK.is.inj {k : NK} {o : HO} {vs ws : List V} (h : k.is o vs) (g : k.is o ws) : vs = ws := by
  have zz : ∀ {α : Type} (ks : List α) (vs ws : List V), ks.length = vs.length → ks.length = ws.length → ks.zip vs = ks.zip ws → vs = ws := by
    intro α ks vs ws h1 h2 e
    have e2 := congrArg (List.map Prod.snd) e
    rwa [List.map_snd_zip (by omega), List.map_snd_zip (by omega)] at e2
  cases k with
  | lst =>
    have h : o = .lst vs := h
    have g : o = .lst ws := g
    exact HO.lst.inj (h.symm.trans g)
  | dK ks => exact zz ks _ _ h.1 g.1 (HO.dK.inj (h.2.2.symm.trans g.2.2))
  | dT ks => exact zz ks _ _ h.1 g.1 (HO.dT.inj (h.2.2.symm.trans g.2.2))
  | ins C ns =>
    obtain ⟨l1, d1, e1⟩ := h
    obtain ⟨l2, d2, e2⟩ := g
    have e := e1.symm.trans e2
    injection e with _ _ e3
    exact zz ns _ _ l1 l2 e3
theorem NK.is.ntup {k : NK} {o : HO} {vs xs : List V} (h : k.is o vs) : o ≠ .tup xs := by
  intro e
  subst e
  cases k with
  | lst => exact absurd (show HO.tup xs = .lst vs from h) (fun z => nomatch z)
  | dK ks => exact absurd h.2.2 (fun z => nomatch z)
  | dT ks => exact absurd h.2.2 (fun z => nomatch z)
  | ins C ns =>
    obtain ⟨_, d, e⟩ := h
    cases e
theorem NK.is.nfrz {k : NK} {o u : HO} {ob : Obj} {vs : List V} (h : k.is o vs) : o ≠ .frz ob u := by
  intro e
  subst e
  cases k with
  | lst => exact absurd (show HO.frz ob u = .lst vs from h) (fun z => nomatch z)
  | dK ks => exact absurd h.2.2 (fun z => nomatch z)
  | dT ks => exact absurd h.2.2 (fun z => nomatch z)
  | ins C ns =>
    obtain ⟨_, d, e⟩ := h
    cases e
theorem NK.is.nt {k : NK} {o : HO} {vs : List V} (h : k.is o vs) : NTbl o := by
  cases k with
  | lst =>
    have h : o = .lst vs := h
    rw [h]; exact nt_lst
  | dK ks => rw [h.2.2]; exact nt_dK
  | dT ks => rw [h.2.2]; exact nt_dT
  | ins C ns =>
    obtain ⟨_, d, e⟩ := h
    rw [e]; exact nt_ins
/-- such a node may be locked while a loop walks it -/
def NK.lk : NK → Bool
  | .dK _ => true
  | .dT _ => true
  | _ => false
inductive T where
  | non | bl (b : Bool) | int (i : Int) | str (s : Str)
  | tup (ts : List T) | nd (k : NK) (ts : List T)
  -- a reference to something that is not looked into
  | opq (a : Addr) (L : List (Addr × HO))
  -- a caught exception at a, of the class at C; its own dict at d
  | exc (a C d : Addr) (fs : List (Str × V))
  -- the script: a locked list of ints
  | scr (ns : List Int)
  -- a tuple of the written part
  | ctp (ts : List T)

abbrev T.lst (ts : List T) : T := .nd .lst ts
theorem T.cs {M : T → Prop} (non : M .non) (bl : ∀ b, M (.bl b)) (int : ∀ i, M (.int i)) (str : ∀ s, M (.str s)) (tup : ∀ ts, M (.tup ts)) (lst : ∀ ts, M (.nd .lst ts)) (dK : ∀ ks ts, M (.nd (.dK ks) ts)) (dT : ∀ ks ts, M (.nd (.dT ks) ts))
    (ins : ∀ C ns ts, M (.nd (.ins C ns) ts)) (opq : ∀ a L, M (.opq a L)) (scr : ∀ ns, M (.scr ns)) (exc : ∀ a C d fs, M (.exc a C d fs)) (ctp : ∀ ts, M (.ctp ts)) (t : T) : M t := by
  cases t with
  | non => exact non
  | bl b => exact bl b
  | int i => exact int i
  | str s => exact str s
  | tup ts => exact tup ts
  | nd k ts =>
    cases k with
    | lst => exact lst ts
    | dK ks => exact dK ks ts
    | dT ks => exact dT ks ts
    | ins C ns => exact ins C ns ts
  | opq a L => exact opq a L
  | exc a C d fs => exact exc a C d fs
  | scr ns => exact scr ns
  | ctp ts => exact ctp ts
mutual
def T.flatAt : T → Nat → Bool
  | .tup ts, n => T.flatAts ts (n - 1)
  | .nd _ _, 0 => false
  | .nd _ ts, n + 1 => T.flatAts ts n
  | .non, _ => true
  | .bl _, _ => true
  | .int _, _ => true
  | .str _, _ => true
  | .scr _, _ => true
  | .opq _ _, _ => true
  | .exc _ _ _ _, _ => false
  | .ctp ts, _ => T.flatAts ts 0
def T.flatAts : List T → Nat → Bool
  | [], _ => true
  | t :: ts, n => T.flatAt t n && T.flatAts ts n
end
abbrev T.flat (t : T) : Bool := t.flatAt 0
abbrev T.flats (ts : List T) : Bool := T.flatAts ts 0

theorem flatAts_iff : ∀ {ts : List T} {n : Nat}, T.flatAts ts n = true ↔ ∀ t ∈ ts, t.flatAt n = true
  | [], n => by simp [T.flatAts]
  | t :: ts, n => by
    rw [T.flatAts, Bool.and_eq_true, flatAts_iff]
    simp

/-! ### a value stands for a tree: lists are owned down to depth n (their addresses told in F), below that they lie in S -/
/-- a list that is locked, or of the written part -/
def SqF (K : PySem.W.Frag) (H : Hp) (a : Addr) (vs : List V) : Prop :=
  (∃ o, H a = some (.frz o (.lst vs))) ∨ ∃ (o : Obj) (its : Array Value) (n : Nat), K.lookup a = some o ∧ o.cls = .type "list" ∧ o.dict = none ∧ o.data = .seq its n ∧ its.size ≤ sizeLine ∧ Vals vs its.toList
/-- a list that is only read: its address is in S -/
def SqS (H : Hp) (S : Addr → Prop) (a : Addr) (vs : List V) : Prop := H a = some (.lst vs) ∧ S a
/-- .. a node of any kind -/
def SqN (H : Hp) (S : Addr → Prop) (k : NK) (a : Addr) (vs : List V) : Prop := ∃ o, k.is o vs ∧ ((H a = some o ∧ S a) ∨ (k.lk = true ∧ ∃ ob, H a = some (.frz ob o)))
/-- things that stand as they are -/
def Fxd (H : Hp) (L : List (Addr × HO)) : Prop := ∀ p ∈ L, H p.1 = some p.2 ∧ ∃ φ, p.2 = .ext φ
theorem Fxd.keep {H H' : Hp} {L : List (Addr × HO)} (h : Fxd H L) (k : ∀ a φ, H a = some (.ext φ) → H' a = some (.ext φ)) : Fxd H' L := fun p hp => by
  obtain ⟨e, φ, e2⟩ := h p hp
  rw [e2] at e
  exact ⟨by rw [k _ _ e, e2], φ, e2⟩
mutual
inductive Own (K : PySem.W.Frag) (H : Hp) (S : Addr → Prop) : Nat → T → V → List Addr → Prop
  | non {n : Nat} : Own K H S n .non .non []
  | bl {n : Nat} (b : Bool) : Own K H S n (.bl b) (.bl b) []
  | int {n : Nat} (i : Int) : Own K H S n (.int i) (.int i) []
  | str {n : Nat} (x : Str) : Own K H S n (.str x) (.str x) []
  | scr {n : Nat} {a : Addr} {ns : List Int} : SqF K H a (ns.map V.int) → Own K H S n (.scr ns) (.ref a) []
  | ctp {n : Nat} {a : Addr} {vs : List V} {ts : List T} : SqT K H a vs → T.flats ts = true → Owns K H S 0 ts vs [] → Own K H S n (.ctp ts) (.ref a) []
  | tupf {n : Nat} {a : Addr} {vs : List V} {ts : List T} : H a = some (.tup vs) → T.flats ts = true → Owns K H S 0 ts vs [] → Own K H S n (.tup ts) (.ref a) []
  | tup0 {a : Addr} {vs : List V} {ts : List T} : H a = some (.tup vs) → Owns K H S 0 ts vs [] → Own K H S 0 (.tup ts) (.ref a) []
  | tup {n : Nat} {a : Addr} {vs : List V} {ts : List T} {F : List Addr} : H a = some (.tup vs) → Owns K H S n ts vs F → Own K H S (n + 1) (.tup ts) (.ref a) F
  | opq {n : Nat} (a : Addr) {L : List (Addr × HO)} : Fxd H L → Own K H S n (.opq a L) (.ref a) []
  | exc {n : Nat} {a C d : Addr} {fs : List (Str × V)} : H d = some (.xd fs) → S d → Own K H S n (.exc a C d fs) (.ref a) []
  | snd {k : NK} {a : Addr} {vs : List V} {ts : List T} : SqN H S k a vs → Owns K H S 0 ts vs [] → Own K H S 0 (.nd k ts) (.ref a) []
  | nd {n : Nat} {k : NK} {a : Addr} {o : HO} {vs : List V} {ts : List T} {F : List Addr} : H a = some o → k.is o vs → Owns K H S n ts vs F → Own K H S (n + 1) (.nd k ts) (.ref a) (a :: F)
inductive Owns (K : PySem.W.Frag) (H : Hp) (S : Addr → Prop) : Nat → List T → List V → List Addr → Prop
  | nil {n : Nat} : Owns K H S n [] [] []
  | cons {n : Nat} {t : T} {ts : List T} {v : V} {vs : List V} {F G : List Addr} : Own K H S n t v F → Owns K H S n ts vs G → Owns K H S n (t :: ts) (v :: vs) (F ++ G)
end
abbrev Shr (K : PySem.W.Frag) (H : Hp) (S : Addr → Prop) (t : T) (v : V) : Prop := Own K H S 0 t v []
abbrev Shrs (K : PySem.W.Frag) (H : Hp) (S : Addr → Prop) (ts : List T) (vs : List V) : Prop := Owns K H S 0 ts vs []

section
variable {K : PySem.W.Frag} {H H' : Hp} {S S' : Addr → Prop}
theorem Owns.length {n : Nat} : ∀ {ts : List T} {vs : List V} {F : List Addr}, Owns K H S n ts vs F → ts.length = vs.length
  | [], _, _, .nil => rfl
  | _ :: _, _, _, .cons _ r => by rw [List.length_cons, List.length_cons, Owns.length r]
mutual
theorem Own.zero : ∀ {t : T} {v : V} {F : List Addr}, Own K H S 0 t v F → F = []
  | .non, _, _, h => by cases h; rfl
  | .bl _, _, _, h => by cases h; rfl
  | .int _, _, _, h => by cases h; rfl
  | .str _, _, _, h => by cases h; rfl
  | .scr _, _, _, h => by cases h; rfl
  | .tup ts, _, _, h => by
    cases h with
    | tupf _ _ r => rfl
    | tup0 _ r => rfl
  | .ctp ts, _, _, h => by cases h; rfl
  | .nd _ ts, _, _, h => by cases h; rfl
  | .opq _ _, _, _, h => by cases h; rfl
  | .exc _ _ _ _, _, _, h => by cases h; rfl
theorem Owns.zero : ∀ {ts : List T} {vs : List V} {F : List Addr}, Owns K H S 0 ts vs F → F = []
  | [], _, _, h => by cases h; rfl
  | t :: ts, _, _, h => by
    cases h with
    | cons a r => rw [Own.zero a, Owns.zero r]; rfl
end
/-- what a change of the heap must keep -/
structure Kp (H H' : Hp) (S : Addr → Prop) (F : List Addr) : Prop where
  tup : ∀ a xs, H a = some (.tup xs) → H' a = some (.tup xs)
  frz : ∀ a o u, H a = some (.frz o u) → H' a = some (.frz o u)
  lst : ∀ a o, (S a ∨ a ∈ F) → NTbl o → H a = some o → H' a = some o
  ext : ∀ a φ, H a = some (.ext φ) → H' a = some (.ext φ)
theorem Kp.sqT {F : List Addr} (k : Kp H H' S F) {a : Addr} {vs : List V} (h : SqT K H a vs) : SqT K H' a vs := by
  rcases h with (h | ⟨o, h⟩) | h
  · exact .inl (.inl (k.tup _ _ h))
  · exact .inl (.inr ⟨o, k.frz _ _ _ h⟩)
  · exact .inr h
theorem Kp.sqS {F : List Addr} (k : Kp H H' S F) (hS : ∀ a, S a → S' a) {a : Addr} {vs : List V} (h : SqS H S a vs) : SqS H' S' a vs := ⟨k.lst _ _ (.inl h.2) nt_lst h.1, hS a h.2⟩
theorem Kp.sqN {F : List Addr} (k : Kp H H' S F) (hS : ∀ a, S a → S' a) {kd : NK} {a : Addr} {vs : List V} (h : SqN H S kd a vs) : SqN H' S' kd a vs := by
  obtain ⟨o, i, h | ⟨l, ob, h⟩⟩ := h
  · exact ⟨o, i, .inl ⟨k.lst _ _ (.inl h.2) i.nt h.1, hS a h.2⟩⟩
  · exact ⟨o, i, .inr ⟨l, ob, k.frz _ _ _ h⟩⟩
theorem Kp.sqL {F : List Addr} (k : Kp H H' S F) {a : Addr} {vs : List V} (h : SqF K H a vs) : SqF K H' a vs := by
  rcases h with ⟨o, h⟩ | h
  · exact .inl ⟨o, k.frz _ _ _ h⟩
  · exact .inr h
theorem Kp.sub {F G : List Addr} (k : Kp H H' S F) (h : ∀ a ∈ G, a ∈ F) : Kp H H' S G := ⟨k.tup, k.frz, fun a xs q n e => k.lst a xs (q.imp_right (h a)) n e, k.ext⟩
theorem Kp.same {F : List Addr} (s : Same H H') : Kp H H' S F := ⟨fun a xs e => s.ex a _ e nt_tup.1, fun a o u e => s.ex a _ e nt_frz.1, fun a xs _ n e => s.ex a _ e n.1, fun a φ e => s.ex a _ e (fun _ z => nomatch z)⟩
mutual
theorem Own.keep (hS : ∀ a, S a → S' a) : ∀ {t : T} {n : Nat} {v : V} {F : List Addr}, Own K H S n t v F → Kp H H' S F → Own K H' S' n t v F
  | .non, _, _, _, h, _ => by cases h; exact .non
  | .bl _, _, _, _, h, _ => by cases h; exact .bl _
  | .int _, _, _, _, h, _ => by cases h; exact .int _
  | .str _, _, _, _, h, _ => by cases h; exact .str _
  | .scr _, _, _, _, h, k => by
    cases h with
    | scr q => exact .scr (k.sqL q)
  | .tup ts, _, _, _, h, k => by
    cases h with
    | tupf q f r => exact .tupf (k.tup _ _ q) f (Owns.keep hS r k)
    | tup0 q r => exact .tup0 (k.tup _ _ q) (Owns.keep hS r k)
    | tup q r => exact .tup (k.tup _ _ q) (Owns.keep hS r k)
  | .ctp ts, _, _, _, h, k => by
    cases h with
    | ctp q f r => exact .ctp (k.sqT q) f (Owns.keep hS r k)
  | .opq _ _, _, _, _, h, k => by
    cases h with
    | opq _ q => exact .opq _ (q.keep k.ext)
  | .exc _ _ _ _, _, _, _, h, k => by
    cases h with
    | exc e s => exact .exc (k.lst _ _ (.inl s) nt_xd e) (hS _ s)
  | .nd _ ts, _, _, _, h, k => by
    cases h with
    | snd q r => exact .snd (k.sqN hS q) (Owns.keep hS r k)
    | nd q i r => exact .nd (k.lst _ _ (.inr List.mem_cons_self) i.nt q) i (Owns.keep hS r (k.sub fun a m => List.mem_cons_of_mem _ m))
theorem Owns.keep (hS : ∀ a, S a → S' a) : ∀ {ts : List T} {n : Nat} {vs : List V} {F : List Addr}, Owns K H S n ts vs F → Kp H H' S F → Owns K H' S' n ts vs F
  | [], _, _, _, h, _ => by cases h; exact .nil
  | t :: ts, _, _, _, h, k => by
    cases h with
    | cons a r => exact .cons (Own.keep hS a (k.sub fun b m => List.mem_append_left _ m)) (Owns.keep hS r (k.sub fun b m => List.mem_append_right _ m))
end
-- all owned nodes stand 
mutual
theorem Own.there : ∀ {t : T} {n : Nat} {v : V} {F : List Addr}, Own K H S n t v F → ∀ a ∈ F, ∃ o : HO, H a = some o
  | .non, _, _, _, h, a, m => by cases h; cases m
  | .bl _, _, _, _, h, a, m => by cases h; cases m
  | .int _, _, _, _, h, a, m => by cases h; cases m
  | .str _, _, _, _, h, a, m => by cases h; cases m
  | .scr _, _, _, _, h, a, m => by cases h; cases m
  | .tup ts, _, _, _, h, a, m => by
    cases h with
    | tupf _ _ r => cases m
    | tup0 _ r => cases m
    | tup _ r => exact Owns.there r a m
  | .ctp ts, _, _, _, h, a, m => by cases h; cases m
  | .opq _ _, _, _, _, h, a, m => by cases h; cases m
  | .exc _ _ _ _, _, _, _, h, a, m => by cases h; cases m
  | .nd _ ts, _, _, _, h, a, m => by
    cases h with
    | snd _ _ => cases m
    | nd q i r =>
      rcases List.mem_cons.mp m with rfl | m
      · exact ⟨_, q⟩
      · exact Owns.there r a m
theorem Owns.there : ∀ {ts : List T} {n : Nat} {vs : List V} {F : List Addr}, Owns K H S n ts vs F → ∀ a ∈ F, ∃ o : HO, H a = some o
  | [], _, _, _, h, a, m => by cases h; cases m
  | t :: ts, _, _, _, h, a, m => by
    cases h with
    | cons x r =>
      rcases List.mem_append.mp m with m | m
      · exact Own.there x a m
      · exact Owns.there r a m
end
mutual
theorem Own.nt : ∀ {t : T} {n : Nat} {v : V} {F : List Addr}, Own K H S n t v F → ∀ a ∈ F, ∀ o, H a = some o → (∀ xs, o ≠ .tup xs) ∧ ∀ ob u, o ≠ .frz ob u
  | .non, _, _, _, h, a, m => by cases h; cases m
  | .bl _, _, _, _, h, a, m => by cases h; cases m
  | .int _, _, _, _, h, a, m => by cases h; cases m
  | .str _, _, _, _, h, a, m => by cases h; cases m
  | .scr _, _, _, _, h, a, m => by cases h; cases m
  | .opq _ _, _, _, _, h, a, m => by cases h; cases m
  | .exc _ _ _ _, _, _, _, h, a, m => by cases h; cases m
  | .tup ts, _, _, _, h, a, m => by
    cases h with
    | tupf _ _ r => cases m
    | tup0 _ r => cases m
    | tup _ r => exact Owns.nt r a m
  | .ctp ts, _, _, _, h, a, m => by cases h; cases m
  | .nd _ ts, _, _, _, h, a, m => by
    cases h with
    | snd _ _ => cases m
    | nd q i r =>
      rcases List.mem_cons.mp m with rfl | m
      · intro o e
        rw [q] at e
        have e := Option.some.inj e
        subst e
        exact ⟨fun xs => i.ntup, fun ob u => i.nfrz⟩
      · exact Owns.nt r a m
theorem Owns.nt : ∀ {ts : List T} {n : Nat} {vs : List V} {F : List Addr}, Owns K H S n ts vs F → ∀ a ∈ F, ∀ o, H a = some o → (∀ xs, o ≠ .tup xs) ∧ ∀ ob u, o ≠ .frz ob u
  | [], _, _, _, h, a, m => by cases h; cases m
  | t :: ts, _, _, _, h, a, m => by
    cases h with
    | cons x r =>
      rcases List.mem_append.mp m with m | m
      · exact Own.nt x a m
      · exact Owns.nt r a m
end
mutual
theorem Own.nx : ∀ {t : T} {n : Nat} {v : V} {F : List Addr}, Own K H S n t v F → ∀ a ∈ F, ∀ o, H a = some o → NTbl o
  | .non, _, _, _, h, a, m => by cases h; cases m
  | .bl _, _, _, _, h, a, m => by cases h; cases m
  | .int _, _, _, _, h, a, m => by cases h; cases m
  | .str _, _, _, _, h, a, m => by cases h; cases m
  | .scr _, _, _, _, h, a, m => by cases h; cases m
  | .opq _ _, _, _, _, h, a, m => by cases h; cases m
  | .exc _ _ _ _, _, _, _, h, a, m => by cases h; cases m
  | .tup ts, _, _, _, h, a, m => by
    cases h with
    | tupf _ _ r => cases m
    | tup0 _ r => cases m
    | tup _ r => exact Owns.nx r a m
  | .ctp ts, _, _, _, h, a, m => by cases h; cases m
  | .nd _ ts, _, _, _, h, a, m => by
    cases h with
    | snd _ _ => cases m
    | nd q i r =>
      rcases List.mem_cons.mp m with rfl | m
      · intro o e
        rw [q] at e
        have e := Option.some.inj e
        subst e
        exact i.nt
      · exact Owns.nx r a m
theorem Owns.nx : ∀ {ts : List T} {n : Nat} {vs : List V} {F : List Addr}, Owns K H S n ts vs F → ∀ a ∈ F, ∀ o, H a = some o → NTbl o
  | [], _, _, _, h, a, m => by cases h; cases m
  | t :: ts, _, _, _, h, a, m => by
    cases h with
    | cons x r =>
      rcases List.mem_append.mp m with m | m
      · exact Own.nx x a m
      · exact Owns.nx r a m
end
-- a tree without lists below depth n: what is shared in it does not matter 
mutual
theorem Own.anyS {t : T} {n : Nat} {v : V} {F : List Addr} (h : Own K H S n t v F) (hf : t.flatAt n = true) (S' : Addr → Prop) : Own K H S' n t v F := by
  cases t with
  | non => cases h; exact .non
  | bl _ => cases h; exact .bl _
  | int _ => cases h; exact .int _
  | str _ => cases h; exact .str _
  | scr _ =>
    cases h with
    | scr q => exact .scr q
  | tup ts =>
    cases h with
    | tupf q f r => exact .tupf q f (Owns.anyS r f S')
    | tup0 q r => exact .tup0 q (Owns.anyS r (by rw [T.flatAt] at hf; exact hf) S')
    | tup q r => exact .tup q (Owns.anyS r (by rw [T.flatAt] at hf; exact hf) S')
  | ctp ts =>
    cases h with
    | ctp q f r => exact .ctp q f (Owns.anyS r f S')
  | opq _ _ =>
    cases h with
    | opq _ q => exact .opq _ q
  | exc _ _ _ _ => rw [T.flatAt] at hf; cases hf
  | nd _ ts =>
    cases h with
    | snd q r => rw [T.flatAt] at hf; cases hf
    | nd q i r => exact .nd q i (Owns.anyS r (by rw [T.flatAt] at hf; exact hf) S')
theorem Owns.anyS {ts : List T} {n : Nat} {vs : List V} {F : List Addr} (h : Owns K H S n ts vs F) (hf : T.flatAts ts n = true) (S' : Addr → Prop) : Owns K H S' n ts vs F := by
  cases ts with
  | nil => cases h; exact .nil
  | cons t ts =>
    rw [T.flatAts, Bool.and_eq_true] at hf
    cases h with
    | cons a r => exact .cons (Own.anyS a hf.1 S') (Owns.anyS r hf.2 S')
end
-- a flat tree has no owned nodes; its depth does not matter 
mutual
theorem Own.flat0 {t : T} {n : Nat} {v : V} {F : List Addr} (h : Own K H S n t v F) (hf : t.flat = true) : F = [] ∧ ∀ m S', Own K H S' m t v [] := by
  cases t with
  | non => cases h; exact ⟨rfl, fun _ _ => .non⟩
  | bl _ => cases h; exact ⟨rfl, fun _ _ => .bl _⟩
  | int _ => cases h; exact ⟨rfl, fun _ _ => .int _⟩
  | str _ => cases h; exact ⟨rfl, fun _ _ => .str _⟩
  | scr _ =>
    cases h with
    | scr q => exact ⟨rfl, fun _ _ => .scr q⟩
  | tup ts =>
    cases h with
    | tupf q f r => exact ⟨rfl, fun m S' => .tupf q f ((Owns.flat0 r f).2 0 S')⟩
    | tup0 q r =>
      have f : T.flats ts = true := by rw [T.flat, T.flatAt] at hf; exact hf
      exact ⟨rfl, fun m S' => .tupf q f ((Owns.flat0 r f).2 0 S')⟩
    | tup q r =>
      have f : T.flats ts = true := by rw [T.flat, T.flatAt] at hf; exact hf
      have z := Owns.flat0 r f
      exact ⟨z.1, fun m S' => .tupf q f (z.2 0 S')⟩
  | ctp ts =>
    cases h with
    | ctp q f r => exact ⟨rfl, fun m S' => .ctp q f ((Owns.flat0 r f).2 0 S')⟩
  | opq _ _ =>
    cases h with
    | opq _ q => exact ⟨rfl, fun _ _ => .opq _ q⟩
  | exc _ _ _ _ => rw [T.flat, T.flatAt] at hf; cases hf
  | nd _ ts => rw [T.flat, T.flatAt] at hf; cases hf
theorem Owns.flat0 {ts : List T} {n : Nat} {vs : List V} {F : List Addr} (h : Owns K H S n ts vs F) (hf : T.flats ts = true) : F = [] ∧ ∀ m S', Owns K H S' m ts vs [] := by
  cases ts with
  | nil => cases h; exact ⟨rfl, fun _ _ => .nil⟩
  | cons t ts =>
    rw [T.flats, T.flatAts, Bool.and_eq_true] at hf
    cases h with
    | cons a r =>
      have z1 := Own.flat0 a hf.1
      have z2 := Owns.flat0 r hf.2
      refine ⟨by rw [z1.1, z2.1]; rfl, fun m S' => ?_⟩
      have q := Owns.cons (z1.2 m S') (z2.2 m S')
      exact q
end
-- less is owned: what is given up goes to S 
mutual
theorem Own.less {t : T} {n m : Nat} {v : V} {F : List Addr} (h : Own K H S n t v F) (hm : m ≤ n) :
    ∃ F' : List Addr, F'.Sublist F ∧ ∀ S' : Addr → Prop, (∀ a, S a → S' a) → (∀ a ∈ F, a ∉ F' → S' a) → F.Nodup → Own K H S' m t v F' := by
  cases t with
  | non => cases h; exact ⟨[], List.Sublist.refl _, fun _ _ _ _ => .non⟩
  | bl _ => cases h; exact ⟨[], List.Sublist.refl _, fun _ _ _ _ => .bl _⟩
  | int _ => cases h; exact ⟨[], List.Sublist.refl _, fun _ _ _ _ => .int _⟩
  | str _ => cases h; exact ⟨[], List.Sublist.refl _, fun _ _ _ _ => .str _⟩
  | scr _ =>
    cases h with
    | scr q => exact ⟨[], List.Sublist.refl _, fun _ _ _ _ => .scr q⟩
  | tup ts =>
    cases h with
    | tupf q f r => exact ⟨[], List.Sublist.refl _, fun S' h1 h2 h3 => .tupf q f ((Owns.flat0 r f).2 0 S')⟩
    | tup0 q r =>
      have e : m = 0 := by omega
      subst e
      exact ⟨[], List.Sublist.refl _, fun S' h1 _ _ => .tup0 q (Owns.keep h1 r ⟨fun _ _ e => e, fun _ _ _ e => e, fun _ _ _ _ e => e, fun _ _ e => e⟩)⟩
    | @tup n a vs ts F q r =>
      cases m with
      | zero =>
        obtain ⟨F', sb, k⟩ := Owns.less r (m := 0) (Nat.zero_le _)
        refine ⟨[], List.nil_sublist _, fun S' h1 h2 h3 => ?_⟩
        have z := k S' h1 (fun b hb _ => h2 b hb (by simp)) h3
        have e := Owns.zero z
        subst e
        exact .tup0 q z
      | succ m =>
        obtain ⟨F', sb, k⟩ := Owns.less r (m := m) (by omega)
        exact ⟨F', sb, fun S' h1 h2 h3 => .tup q (k S' h1 h2 h3)⟩
  | ctp ts =>
    cases h with
    | ctp q f r => exact ⟨[], List.Sublist.refl _, fun S' h1 h2 h3 => .ctp q f ((Owns.flat0 r f).2 0 S')⟩
  | opq _ _ =>
    cases h with
    | opq _ q => exact ⟨[], List.Sublist.refl _, fun _ _ _ _ => .opq _ q⟩
  | exc _ _ _ _ =>
    cases h with
    | exc e s => exact ⟨[], List.Sublist.refl _, fun S' h1 _ _ => .exc e (h1 _ s)⟩
  | nd k ts =>
    cases h with
    | snd q r =>
      have e : m = 0 := by omega
      subst e
      have kr : Kp H H S [] := ⟨fun _ _ e => e, fun _ _ _ e => e, fun _ _ _ _ e => e, fun _ _ e => e⟩
      exact ⟨[], List.Sublist.refl _, fun S' h1 _ _ => .snd (kr.sqN h1 q) (Owns.keep h1 r ⟨fun _ _ e => e, fun _ _ _ e => e, fun _ _ _ _ e => e, fun _ _ e => e⟩)⟩
    | @nd n _ a o vs ts F q i r =>
      cases m with
      | zero =>
        obtain ⟨F', sb, k⟩ := Owns.less r (m := 0) (Nat.zero_le _)
        refine ⟨[], List.nil_sublist _, fun S' h1 h2 h3 => ?_⟩
        have h3' := List.nodup_cons.mp h3
        have z := k S' h1 (fun b hb _ => h2 b (List.mem_cons_of_mem _ hb) (by simp)) h3'.2
        have e := Owns.zero z
        subst e
        exact .snd ⟨o, i, .inl ⟨q, h2 a List.mem_cons_self (by simp)⟩⟩ z
      | succ m =>
        obtain ⟨F', sb, k⟩ := Owns.less r (m := m) (by omega)
        refine ⟨a :: F', sb.cons_cons a, fun S' h1 h2 h3 => ?_⟩
        have h3' := List.nodup_cons.mp h3
        refine .nd q i (k S' h1 (fun b hb hn => h2 b (List.mem_cons_of_mem _ hb) fun hc => ?_) h3'.2)
        rcases List.mem_cons.mp hc with e | hc
        · subst e; exact h3'.1 hb
        · exact hn hc
theorem Owns.less {ts : List T} {n m : Nat} {vs : List V} {F : List Addr} (h : Owns K H S n ts vs F) (hm : m ≤ n) :
    ∃ F' : List Addr, F'.Sublist F ∧ ∀ S' : Addr → Prop, (∀ a, S a → S' a) → (∀ a ∈ F, a ∉ F' → S' a) → F.Nodup → Owns K H S' m ts vs F' := by
  cases ts with
  | nil => cases h; exact ⟨[], List.Sublist.refl _, fun _ _ _ _ => .nil⟩
  | cons t ts =>
    cases h with
    | @cons n t ts v vs F G a r =>
      obtain ⟨F', s1, k1⟩ := Own.less a hm
      obtain ⟨G', s2, k2⟩ := Owns.less r hm
      refine ⟨F' ++ G', s1.append s2, fun S' h1 h2 h3 => ?_⟩
      obtain ⟨n1, n2, n3⟩ := List.nodup_append.mp h3
      refine .cons (k1 S' h1 (fun b hb hn => h2 b (List.mem_append_left _ hb) fun hc => ?_) n1) (k2 S' h1 (fun b hb hn => h2 b (List.mem_append_right _ hb) fun hc => ?_) n2)
      · rcases List.mem_append.mp hc with hc | hc
        · exact hn hc
        · exact n3 b hb b (s2.subset hc) rfl
      · rcases List.mem_append.mp hc with hc | hc
        · exact n3 b (s1.subset hc) b hb rfl
        · exact hn hc
end
theorem kp_refl {F : List Addr} : Kp H H S F := ⟨fun _ _ e => e, fun _ _ _ e => e, fun _ _ _ _ e => e, fun _ _ e => e⟩
theorem Own.mono (hS : ∀ a, S a → S' a) {t : T} {n : Nat} {v : V} {F : List Addr} (h : Own K H S n t v F) : Own K H S' n t v F := h.keep hS kp_refl
theorem Owns.mono (hS : ∀ a, S a → S' a) {ts : List T} {n : Nat} {vs : List V} {F : List Addr} (h : Owns K H S n ts vs F) : Owns K H S' n ts vs F := Owns.keep hS h kp_refl
-- the nodes in S stand
mutual
theorem Own.trk {t : T} {n : Nat} {v : V} {F : List Addr} (h : Own K H S n t v F) : Own K H (fun a => S a ∧ H a ≠ none) n t v F := by
  cases t with
  | non => cases h; exact .non
  | bl _ => cases h; exact .bl _
  | int _ => cases h; exact .int _
  | str _ => cases h; exact .str _
  | scr _ =>
    cases h with
    | scr q => exact .scr q
  | tup ts =>
    cases h with
    | tupf q f r => exact .tupf q f (Owns.trk r)
    | tup0 q r => exact .tup0 q (Owns.trk r)
    | tup q r => exact .tup q (Owns.trk r)
  | ctp ts =>
    cases h with
    | ctp q f r => exact .ctp q f (Owns.trk r)
  | opq _ _ =>
    cases h with
    | opq _ q => exact .opq _ q
  | exc _ _ _ _ =>
    cases h with
    | exc e s => exact .exc e ⟨s, fun z => by rw [e] at z; cases z⟩
  | nd _ ts =>
    cases h with
    | snd q r =>
      obtain ⟨o, i, q | q⟩ := q
      · exact .snd ⟨o, i, .inl ⟨q.1, q.2, fun z => by rw [q.1] at z; cases z⟩⟩ (Owns.trk r)
      · exact .snd ⟨o, i, .inr q⟩ (Owns.trk r)
    | nd q i r => exact .nd q i (Owns.trk r)
theorem Owns.trk {ts : List T} {n : Nat} {vs : List V} {F : List Addr} (h : Owns K H S n ts vs F) : Owns K H (fun a => S a ∧ H a ≠ none) n ts vs F := by
  cases ts with
  | nil => cases h; exact .nil
  | cons t ts =>
    cases h with
    | cons a r => exact .cons (Own.trk a) (Owns.trk r)
end
-- read as shared by whoever takes all that is owned for shared
mutual
theorem Own.shr {t : T} {n : Nat} {v : V} {F : List Addr} (h : Own K H S n t v F) (hS : ∀ a, S a → S' a) (hF : ∀ a ∈ F, S' a) : Shr K H S' t v := by
  cases t with
  | non => cases h; exact .non
  | bl _ => cases h; exact .bl _
  | int _ => cases h; exact .int _
  | str _ => cases h; exact .str _
  | scr _ =>
    cases h with
    | scr q => exact .scr q
  | tup ts =>
    cases h with
    | tupf q f r => exact .tup0 q (r.mono hS)
    | tup0 q r => exact .tup0 q (r.mono hS)
    | tup q r => exact .tup0 q (Owns.shr r hS hF)
  | ctp ts =>
    cases h with
    | ctp q f r => exact .ctp q f (r.mono hS)
  | opq _ _ =>
    cases h with
    | opq _ q => exact .opq _ q
  | exc _ _ _ _ =>
    cases h with
    | exc e s => exact .exc e (hS _ s)
  | nd _ ts =>
    cases h with
    | snd q r => exact (Own.snd q r).mono hS
    | nd q i r => exact .snd ⟨_, i, .inl ⟨q, hF _ List.mem_cons_self⟩⟩ (Owns.shr r hS fun a m => hF a (List.mem_cons_of_mem _ m))
theorem Owns.shr {ts : List T} {n : Nat} {vs : List V} {F : List Addr} (h : Owns K H S n ts vs F) (hS : ∀ a, S a → S' a) (hF : ∀ a ∈ F, S' a) : Shrs K H S' ts vs := by
  cases ts with
  | nil => cases h; exact .nil
  | cons t ts =>
    cases h with
    | cons a r =>
      have q := Owns.cons (Own.shr a hS fun b m => hF b (List.mem_append_left _ m)) (Owns.shr r hS fun b m => hF b (List.mem_append_right _ m))
      exact q
end
/-! ### reading shared values -/
theorem SqS.sq {a : Addr} {vs : List V} (h : SqS H S a vs) : SqL K H a vs := .inl (.inl h.1)
theorem SqF.sq {a : Addr} {vs : List V} (h : SqF K H a vs) : SqL K H a vs := by
  rcases h with h | h
  · exact .inl (.inr h)
  · exact .inr h
theorem shr_scr {ns : List Int} {v : V} (h : Shr K H S (.scr ns) v) : ∃ a, v = .ref a ∧ SqF K H a (ns.map V.int) := by
  cases h with
  | scr q => exact ⟨_, rfl, q⟩
theorem sqN_lst {a : Addr} {vs : List V} : SqN H S .lst a vs ↔ SqS H S a vs := by
  constructor
  · rintro ⟨o, i, h | ⟨l, _⟩⟩
    · obtain rfl : o = .lst vs := i
      exact h
    · cases l
  · exact fun h => ⟨_, rfl, .inl h⟩
theorem Own.sls {a : Addr} {vs : List V} {ts : List T} (q : SqS H S a vs) (r : Owns K H S 0 ts vs []) : Own K H S 0 (.lst ts) (.ref a) [] := .snd (sqN_lst.mpr q) r
theorem Own.lst {n : Nat} {a : Addr} {vs : List V} {ts : List T} {F : List Addr} (q : H a = some (.lst vs)) (r : Owns K H S n ts vs F) : Own K H S (n + 1) (.lst ts) (.ref a) (a :: F) := .nd q rfl r
theorem shr_nd {k : NK} {ts : List T} {v : V} (h : Shr K H S (.nd k ts) v) : ∃ a vs, v = .ref a ∧ SqN H S k a vs ∧ Shrs K H S ts vs := by
  cases h with
  | snd q r => exact ⟨_, _, rfl, q, r⟩
theorem own_nlst {n : Nat} {ts : List T} {v : V} {F : List Addr} (h : Own K H S (n + 1) (.lst ts) v F) : ∃ a vs G, v = .ref a ∧ F = a :: G ∧ H a = some (.lst vs) ∧ Owns K H S n ts vs G := by
  cases h with
  | nd q i r =>
    cases i
    exact ⟨_, _, _, rfl, rfl, q, r⟩
theorem shr_opq {a : Addr} {L : List (Addr × HO)} {v : V} (h : Shr K H S (.opq a L) v) : v = .ref a ∧ Fxd H L := by
  cases h with
  | opq _ q => exact ⟨rfl, q⟩
theorem shr_lst {ts : List T} {v : V} (h : Shr K H S (.lst ts) v) : ∃ a vs, v = .ref a ∧ SqS H S a vs ∧ Shrs K H S ts vs := by
  cases h with
  | snd q r => exact ⟨_, _, rfl, sqN_lst.mp q, r⟩
theorem shr_tupR {ts : List T} {v : V} (h : Shr K H S (.tup ts) v) : ∃ a vs, v = .ref a ∧ H a = some (.tup vs) ∧ Shrs K H S ts vs := by
  cases h with
  | tupf q _ r => exact ⟨_, _, rfl, q, r⟩
  | tup0 q r => exact ⟨_, _, rfl, q, r⟩
theorem shr_tup {ts : List T} {v : V} (h : Shr K H S (.tup ts) v) : ∃ a vs, v = .ref a ∧ SqT K H a vs ∧ Shrs K H S ts vs := by
  obtain ⟨a, vs, e, q, r⟩ := shr_tupR h
  exact ⟨a, vs, e, SqT.of q, r⟩
theorem shr_ctp {ts : List T} {v : V} (h : Shr K H S (.ctp ts) v) : ∃ a vs, v = .ref a ∧ SqT K H a vs ∧ Shrs K H S ts vs := by
  cases h with
  | ctp q _ r => exact ⟨_, _, rfl, q, r⟩
theorem shr_int {i : Int} {v : V} (h : Shr K H S (.int i) v) : v = .int i := by cases h; rfl
theorem shr_bl {i : Bool} {v : V} (h : Shr K H S (.bl i) v) : v = .bl i := by cases h; rfl
theorem shr_str {i : Str} {v : V} (h : Shr K H S (.str i) v) : v = .str i := by cases h; rfl
theorem shr_non {v : V} (h : Shr K H S .non v) : v = .non := by cases h; rfl
theorem Shrs.cons {t : T} {ts : List T} {v : V} {vs : List V} (a : Shr K H S t v) (r : Shrs K H S ts vs) : Shrs K H S (t :: ts) (v :: vs) := Owns.cons a r
theorem Shrs.uncons {t : T} {ts : List T} {vs : List V} (h : Shrs K H S (t :: ts) vs) : ∃ v r, vs = v :: r ∧ Shr K H S t v ∧ Shrs K H S ts r := by
  unfold Shrs at h
  generalize hF : ([] : List Addr) = F at h
  cases h with
  | @cons n t ts v vs F G a r =>
    have e1 := a.zero
    have e2 := Owns.zero r
    subst e1; subst e2
    exact ⟨_, _, rfl, a, r⟩
theorem Shrs.get : ∀ {ts : List T} {vs : List V} {i : Nat} {t : T}, Shrs K H S ts vs → ts[i]? = some t → ∃ v, vs[i]? = some v ∧ Shr K H S t v
  | [], _, _, _, _, e => by simp at e
  | t :: ts, vs, i, u, h, e => by
    obtain ⟨v, r, rfl, a, b⟩ := h.uncons
    cases i with
    | zero =>
      simp at e
      subst e
      exact ⟨v, rfl, a⟩
    | succ i => exact Shrs.get (i := i) b (by simpa using e)
theorem Shrs.append : ∀ {ts us : List T} {vs ws : List V}, Shrs K H S ts vs → Shrs K H S us ws → Shrs K H S (ts ++ us) (vs ++ ws)
  | [], _, _, _, h, g => by
    have e := h.length
    cases h
    exact g
  | t :: ts, us, vs, ws, h, g => by
    obtain ⟨v, r, rfl, a, b⟩ := h.uncons
    exact Shrs.cons a (Shrs.append b g)
theorem Shrs.take : ∀ {ts : List T} {vs : List V} (n : Nat), Shrs K H S ts vs → Shrs K H S (ts.take n) (vs.take n)
  | _, _, 0, _ => .nil
  | [], vs, n + 1, h => by cases h; exact .nil
  | t :: ts, vs, n + 1, h => by
    obtain ⟨v, r, rfl, a, b⟩ := h.uncons
    exact Shrs.cons a (Shrs.take n b)
theorem Shrs.drop : ∀ {ts : List T} {vs : List V} (n : Nat), Shrs K H S ts vs → Shrs K H S (ts.drop n) (vs.drop n)
  | _, _, 0, h => h
  | [], vs, n + 1, h => by cases h; exact .nil
  | t :: ts, vs, n + 1, h => by
    obtain ⟨v, r, rfl, a, b⟩ := h.uncons
    exact Shrs.drop n b
theorem Shrs.ints : ∀ {is : List Int} {vs : List V}, Shrs K H S (is.map T.int) vs → vs = is.map V.int
  | [], _, h => by cases h; rfl
  | i :: is, vs, h => by
    obtain ⟨v, r, rfl, a, b⟩ := h.uncons
    rw [shr_int a, Shrs.ints b]
    rfl
theorem Shrs.of_ints : ∀ {is : List Int}, Shrs K H S (is.map T.int) (is.map V.int)
  | [] => .nil
  | i :: is => Shrs.cons (Own.int i) Shrs.of_ints
end
end TL
set_option Elab.async false
set_option linter.all false
set_option maxRecDepth 100000
namespace TL
open PySem PySem.Spec PyProof.Rows L2

/-! ### what is known of a slot -/
abbrev St := L2.St
inductive Ent where
  | no | ow (n : Nat) (t : T) | io (n : Nat) (t : T) | ro (t : T) | al (j i : Nat) (t : T)
def Ent.tr : Ent → Option T
  | .no => none
  | .ow _ t => some t
  | .io _ t => some t
  | .ro t => some t
  | .al _ _ t => some t
def Ent.own : Ent → Option (Nat × T)
  | .ow n t => some (n, t)
  | .io n t => some (n, t)
  | _ => none
def Ent.put (t : T) : Ent → Ent
  | .ow n _ => .ow n t
  | .io n _ => .io n t
  | e => e
structure Root where
  e : Ent
  o : Option V
  F : List Addr
structure Fm where
  S0 : Addr → Prop
  H0 : Hp
  W : List Addr
  v0 : St
def SlotR (K : PySem.W.Frag) (H : Hp) (S : Addr → Prop) : Ent → Option V → List Addr → Prop
  | .no, _, F => F = []
  | .ow n t, o, F => ∃ v, o = some v ∧ Own K H S n t v F
  | .io n t, o, F => ∃ v, o = some v ∧ Own K H S n t v F
  | .ro t, o, F => F = [] ∧ ∃ v, o = some v ∧ Shr K H (fun _ => True) t v
  | .al _ _ _, o, F => F = [] ∧ ∃ v, o = some v
/-- the way down from a tree (at v) along places to a part of it -/
inductive Way (H : Hp) : T → V → List Nat → T → V → Prop
  | nil {t : T} {v : V} : Way H t v [] t v
  | nd {b : Addr} {k : NK} {o : HO} {vs : List V} {ts : List T} {i : Nat} {t1 t2 : T} {v1 v2 : V} {p : List Nat} : H b = some o → k.is o vs → vs[i]? = some v1 → ts[i]? = some t1 → Way H t1 v1 p t2 v2 → Way H (.nd k ts) (.ref b) (i :: p) t2 v2
  | tup {b : Addr} {vs : List V} {ts : List T} {i : Nat} {t1 t2 : T} {v1 v2 : V} {p : List Nat} : H b = some (.tup vs) → vs[i]? = some v1 → ts[i]? = some t1 → Way H t1 v1 p t2 v2 → Way H (.tup ts) (.ref b) (i :: p) t2 v2
theorem Way.lst {H : Hp} {b : Addr} {vs : List V} {ts : List T} {i : Nat} {t1 t2 : T} {v1 v2 : V} {p : List Nat} (h : H b = some (.lst vs)) (h1 : vs[i]? = some v1) (h2 : ts[i]? = some t1) (w : Way H t1 v1 p t2 v2) : Way H (.lst ts) (.ref b) (i :: p) t2 v2 := .nd h rfl h1 h2 w
/-- slot k holds item i of what slot j owns -/
structure AlOk (K : PySem.W.Frag) (H : Hp) (S : Addr → Prop) (rs : List Root) (σ : St) (k j i : Nat) (t : T) : Prop where
  ex : ∃ (r : Root) (n : Nat) (U : T) (v0 v : V) (Fi : List Addr), rs[j]? = some r ∧ r.e.own = some (n + 1, U) ∧ r.o = some v0 ∧ σ[k]? = some (some v) ∧ Way H U v0 [i] t v ∧ Own K H S n t v Fi ∧ ∀ b ∈ Fi, b ∈ r.F
/-- kept, or a table still -/
def Stay (o : HO) (x : Option HO) : Prop := x = some o ∨ ∃ ps ps', o = .tbl ps ∧ x = some (.tbl ps')
theorem Stay.nt {o : HO} {x : Option HO} (h : Stay o x) (n : ∀ ps, o ≠ .tbl ps) : x = some o := by
  rcases h with h | ⟨ps, _, e, _⟩
  · exact h
  · exact absurd e (n ps)
theorem Stay.sm {o : HO} {x : Option HO} (h : Stay o x) : x ≠ none := by
  rcases h with h | ⟨ps, qs, e, h⟩ <;> rw [h] <;> exact fun z => nomatch z
theorem Stay.trans {o : HO} {x y : Option HO} (h : Stay o x) (k : ∀ u, x = Option.some u → Stay u y) : Stay o y := by
  rcases h with h | ⟨ps, qs, e, h⟩
  · exact k o h
  · rcases k _ h with z | ⟨_, rs, _, z⟩
    · exact .inr ⟨_, _, e, z⟩
    · exact .inr ⟨_, _, e, z⟩
theorem Same.stay {H H' : Hp} (s : Same H H') {o : HO} {a : Addr} (h : Stay o (H a)) : Stay o (H' a) := by
  rcases h with h | ⟨ps, qs, e, h⟩
  · cases o with
    | tbl ps =>
      obtain ⟨rs, e⟩ := s.tbl a ps h
      exact .inr ⟨_, _, rfl, e⟩
    | _ => exact .inl (s.ex a _ h fun _ z => nomatch z)
  · obtain ⟨rs, e2⟩ := s.tbl a qs h
    exact .inr ⟨_, _, e, e2⟩
theorem Same.of {H H' : Hp} (h : ∀ a o, H a = some o → Stay o (H' a)) (t : TbOk H → TbOk H') : Same H H' := ⟨fun a o e n => (h a o e).nt n, fun a ps e => by
  rcases h a _ e with z | ⟨_, qs, _, z⟩
  · exact ⟨ps, z⟩
  · exact ⟨qs, z⟩, t⟩
structure Good (K : PySem.W.Frag) (f : Fm) (S : Addr → Prop) (rs : List Root) (H : Hp) : Prop where
  slot : ∀ (k : Nat) r, rs[k]? = some r → SlotR K H S r.e r.o r.F ∧ r.F.Nodup ∧ ∀ a ∈ r.F, ¬ S a ∧ (f.H0 a = none ∨ a ∈ f.W)
  dj : ∀ (k l : Nat) r q, rs[k]? = some r → rs[l]? = some q → k ≠ l → ∀ a ∈ r.F, a ∉ q.F
  trk : ∀ a, S a → H a ≠ none
  fr : ∀ a o, f.H0 a = some o → a ∉ f.W → Stay o (H a)
  src : ∀ a, S a → f.S0 a ∨ f.H0 a = none ∨ a ∈ f.W
  tb : TbOk H
structure StaW (K : PySem.W.Frag) (f : Fm) (τ : List Root) (ρ : List Ent) (σ : St) (H : Hp) (S : Addr → Prop) (rs : List Root) : Prop where
  e : rs.map (·.e) = ρ
  o : rs.map (·.o) = σ
  good : Good K f S (rs ++ τ) H
  al : ∀ k j i t, ρ[k]? = some (.al j i t) → AlOk K H S rs σ k j i t
  io : ∀ (i : Nat) n t, ρ[i]? = some (.io n t) → σ[i]? = f.v0[i]?
  tm : ∀ r ∈ τ, ∃ n t, r.e = .ow n t
def Sta (K : PySem.W.Frag) (f : Fm) (τ : List Root) (ρ : List Ent) (σ : St) (H : Hp) : Prop := ∃ S rs, StaW K f τ ρ σ H S rs

/-! ### reading -/
structure RdS (K : PySem.W.Frag) (S : Addr → Prop) (ρ : List Ent) (σ : St) (H : Hp) : Prop where
  tb : TbOk H
  rd : ∀ (i : Nat) e t, ρ[i]? = some e → e.tr = some t → ∃ v, σ[i]? = some (some v) ∧ Shr K H S t v
instance {K : PySem.W.Frag} {S : Addr → Prop} {ρ : List Ent} {σ : St} {H : Hp} : CoeFun (RdS K S ρ σ H) (fun _ => ∀ (i : Nat) e t, ρ[i]? = some e → e.tr = some t → ∃ v, σ[i]? = some (some v) ∧ Shr K H S t v) := ⟨RdS.rd⟩
def fresh (S : Addr → Prop) (H : Hp) : Addr → Prop := fun a => S a ∨ H a = none
def shE : Ent → Ent
  | .ow 0 t => .ow 0 t
  | _ => .no
def shOnly (ρ : List Ent) : List Ent := ρ.map shE
def noRo (js : List Nat) : Ent → Ent
  | .ro _ => .no
  | .al j i t => if j ∈ js then .no else .al j i t
  | e => e
def killJ (js : List Nat) (ρ : List Ent) : List Ent := ρ.map (noRo js)
def noRA : Ent → Ent
  | .ro _ => .no
  | .al _ _ _ => .no
  | e => e
def notIn (js : List Nat) (ρ : List Ent) : List Ent := js.foldl (fun ρ j => ρ.set j .no) (ρ.map noRA)
def noAl (i : Nat) : Ent → Ent
  | .al j k t => if j = i then .no else .al j k t
  | e => e
def killA (i : Nat) (ρ : List Ent) : List Ent := ρ.map (noAl i)
def setE (ρ : List Ent) (i : Nat) (e : Ent) : List Ent := (killA i ρ).set i e

section
variable {K : PySem.W.Frag} {f : Fm} {S S' : Addr → Prop} {H H' : Hp} {τ rs rs' : List Root} {ρ ρ' : List Ent} {σ : St}
theorem RdS.same (r : RdS K S ρ σ H) (s : Same H H') : RdS K (fresh S H) ρ σ H' := ⟨s.tb r.tb, fun i e t h1 h2 => by
  obtain ⟨v, h3, h4⟩ := r i e t h1 h2
  exact ⟨v, h3, h4.keep (fun _ => .inl) (.same s)⟩⟩
theorem RdS.mono (r : RdS K S ρ σ H) (hS : ∀ a, S a → S' a) : RdS K S' ρ σ H := ⟨r.tb, fun i e t h1 h2 => by
  obtain ⟨v, h3, h4⟩ := r i e t h1 h2
  exact ⟨v, h3, h4.mono hS⟩⟩
theorem fresh_trans (s : Same H H') {a : Addr} (h : fresh (fresh S H) H' a) : fresh S H a := by
  rcases h with h | h
  · exact h
  · exact .inr (s.free h)
theorem SlotR.rd {e : Ent} {o : Option V} {F : List Addr} {t : T} (h : SlotR K H S e o F) (ht : e.tr = some t) (ha : ∀ j i u, e ≠ .al j i u) : ∃ v, o = some v ∧ Shr K H (fun _ => True) t v := by
  cases e with
  | no => cases ht
  | ow n u => cases ht; obtain ⟨v, e, q⟩ := h; exact ⟨v, e, q.shr (fun _ _ => trivial) (fun _ _ => trivial)⟩
  | io n u => cases ht; obtain ⟨v, e, q⟩ := h; exact ⟨v, e, q.shr (fun _ _ => trivial) (fun _ _ => trivial)⟩
  | ro u => cases ht; exact h.2
  | al j i u => exact absurd rfl (ha j i u)
theorem SlotR.own {e : Ent} {o : Option V} {F : List Addr} {n : Nat} {t : T} (h : SlotR K H S e o F) (ht : e.own = some (n, t)) : ∃ v, o = some v ∧ Own K H S n t v F := by
  cases e with
  | no => cases ht
  | ow n u => cases ht; exact h
  | io n u => cases ht; exact h
  | ro u => cases ht
  | al j i u => cases ht
theorem StaW.get (s : StaW K f τ ρ σ H S rs) {i : Nat} {e : Ent} (h : ρ[i]? = some e) : ∃ r, (rs ++ τ)[i]? = some r ∧ r.e = e ∧ σ[i]? = some r.o ∧ rs[i]? = some r := by
  have h' := h
  rw [← s.e, List.getElem?_map] at h'
  cases q : rs[i]? with
  | none => rw [q] at h'; cases h'
  | some r =>
    rw [q] at h'
    refine ⟨r, ?_, Option.some.inj h', ?_, rfl⟩
    · rw [List.getElem?_append_left (List.getElem?_eq_some_iff.mp q).1]; exact q
    · rw [← s.o, List.getElem?_map, q]; rfl
theorem StaW.len (s : StaW K f τ ρ σ H S rs) : rs.length = ρ.length := by rw [← s.e, List.length_map]
theorem StaW.lenσ (s : StaW K f τ ρ σ H S rs) : rs.length = σ.length := by rw [← s.o, List.length_map]
theorem StaW.rdAll (s : StaW K f τ ρ σ H S rs) : RdS K (fun _ => True) ρ σ H := ⟨s.good.tb, fun i e t h1 h2 => by
  cases ea : e with
  | al j i' u =>
    subst ea
    cases h2
    obtain ⟨r, n, U, v0, v, Fi, _, _, _, a4, _, a6, _⟩ := (s.al i j i' t h1).ex
    exact ⟨v, a4, a6.shr (fun _ _ => trivial) (fun _ _ => trivial)⟩
  | _ =>
    obtain ⟨r, q1, q2, q3, _⟩ := s.get h1
    obtain ⟨v, e, h⟩ := (s.good.slot i r q1).1.rd (q2 ▸ h2) (by rw [q2, ea]; intro _ _ _ z; cases z)
    exact ⟨v, by rw [q3, e], h⟩⟩
theorem Sta.rdAll (s : Sta K f τ ρ σ H) : RdS K (fun _ => True) ρ σ H := let ⟨_, _, s⟩ := s; s.rdAll
theorem StaW.rdSh (s : StaW K f τ ρ σ H S rs) : RdS K S (shOnly ρ) σ H := ⟨s.good.tb, fun i e t h1 h2 => by
  unfold shOnly at h1
  rw [List.getElem?_map] at h1
  cases q : ρ[i]? with
  | none => rw [q] at h1; cases h1
  | some e0 =>
    rw [q] at h1
    have h1 := Option.some.inj h1
    subst h1
    obtain ⟨r, q1, rfl, q3, _⟩ := s.get q
    have z := (s.good.slot i r q1).1
    cases er : r.e with
    | ow n u =>
      cases n with
      | zero =>
        rw [er] at h2 z
        cases h2
        obtain ⟨v, e, h⟩ := z
        have e2 := h.zero
        rw [e2] at h
        exact ⟨v, by rw [q3, e], h⟩
      | succ n => rw [er] at h2; cases h2
    | no => rw [er] at h2; cases h2
    | io _ _ => rw [er] at h2; cases h2
    | ro _ => rw [er] at h2; cases h2
    | al _ _ _ => rw [er] at h2; cases h2⟩

/-! ### keeping the state -/
theorem SlotR.keep {e : Ent} {o : Option V} {F : List Addr} (h : SlotR K H S e o F) (hS : ∀ a, S a → S' a) (k : Kp H H' S F) (kr : ∀ t, e = .ro t → Kp H H' (fun _ => True) []) : SlotR K H' S' e o F := by
  cases e with
  | no => exact h
  | ow n u => obtain ⟨v, e, q⟩ := h; exact ⟨v, e, q.keep hS k⟩
  | io n u => obtain ⟨v, e, q⟩ := h; exact ⟨v, e, q.keep hS k⟩
  | ro u => obtain ⟨e, v, e2, q⟩ := h; exact ⟨e, v, e2, q.keep (fun _ z => z) (kr u rfl)⟩
  | al j i u => exact h
theorem Way.same {t u : T} {v x : V} {p : List Nat} (w : Way H t v p u x) (s : Same H H') : Way H' t v p u x := by
  induction w with
  | nil => exact .nil
  | nd h1 h2 h3 h4 _ ih => exact .nd (s.ex _ _ h1 h2.nt.1) h2 h3 h4 ih
  | tup h1 h2 h3 _ ih => exact .tup (s.ex _ _ h1 nt_tup.1) h2 h3 ih
theorem AlOk.same {k j i : Nat} {t : T} (h : AlOk K H S rs σ k j i t) (s : Same H H') : AlOk K H' S rs σ k j i t := by
  obtain ⟨r, n, U, v0, v, Fi, a1, a2, a3, a4, a5, a6, a7⟩ := h.ex
  exact ⟨⟨r, n, U, v0, v, Fi, a1, a2, a3, a4, a5.same s, a6.keep (fun _ z => z) (.same s), a7⟩⟩
theorem AlOk.mono {k j i : Nat} {t : T} (h : AlOk K H S rs σ k j i t) (hS : ∀ a, S a → S' a) : AlOk K H S' rs σ k j i t := by
  obtain ⟨r, n, U, v0, v, Fi, a1, a2, a3, a4, a5, a6, a7⟩ := h.ex
  exact ⟨⟨r, n, U, v0, v, Fi, a1, a2, a3, a4, a5, a6.mono hS, a7⟩⟩
theorem StaW.same (s : StaW K f τ ρ σ H S rs) (k : Same H H') : StaW K f τ ρ σ H' S rs where
  e := s.e
  o := s.o
  good := ⟨fun m r e => let ⟨a, b, c⟩ := s.good.slot m r e; ⟨a.keep (fun _ z => z) (.same k) (fun _ _ => .same k), b, c⟩, s.good.dj, fun a h z => s.good.trk a h (k.free z), fun a o h1 h2 => k.stay (s.good.fr a o h1 h2), s.good.src, k.tb s.good.tb⟩
  al := fun k' j i t h => (s.al k' j i t h).same k
  io := s.io
  tm := s.tm
theorem Sta.same (s : Sta K f τ ρ σ H) (k : Same H H') : Sta K f τ ρ σ H' := let ⟨S, rs, s⟩ := s; ⟨S, rs, s.same k⟩
/-- fewer roots, weaker roots -/
theorem Good.pick (G : Good K f S rs H) (g : Nat → Nat) (old : ∀ m r, rs'[m]? = some r → (r.e = .no ∧ r.F = []) ∨ rs[g m]? = some r)
    (inj : ∀ m l r q, rs'[m]? = some r → rs'[l]? = some q → r.F ≠ [] → q.F ≠ [] → g m = g l → m = l) : Good K f S rs' H where
  slot := fun m r e => by
    rcases old m r e with ⟨h2, h3⟩ | h1
    · refine ⟨?_, by rw [h3]; exact List.nodup_nil, fun a z => by rw [h3] at z; cases z⟩
      rw [h2]; exact h3
    · exact G.slot _ _ h1
  dj := fun m l r q e1 e2 ne a ha hb => by
    rcases old m r e1 with ⟨_, h2⟩ | h1
    · rw [h2] at ha; cases ha
    · rcases old l q e2 with ⟨_, h4⟩ | h3
      · rw [h4] at hb; cases hb
      · exact G.dj _ _ _ _ h1 h3 (fun z => ne (inj m l r q e1 e2 (List.ne_nil_of_mem ha) (List.ne_nil_of_mem hb) z)) a ha hb
  trk := G.trk
  fr := G.fr
  src := G.src
  tb := G.tb
/-- the k-th root anew, the heap changed, more in S -/
theorem Good.repl (G : Good K f S rs H) (g : Nat → Nat) (k : Nat) {r' : Root} (hk : rs'[k]? = some r')
    (old : ∀ m r, m ≠ k → rs'[m]? = some r → (r.e = .no ∧ r.F = []) ∨ rs[g m]? = some r)
    (inj : ∀ m l r q, m ≠ k → l ≠ k → rs'[m]? = some r → rs'[l]? = some q → r.F ≠ [] → q.F ≠ [] → g m = g l → m = l)
    (new : SlotR K H' S' r'.e r'.o r'.F) (nd : r'.F.Nodup) (nS : ∀ a ∈ r'.F, ¬ S' a ∧ (f.H0 a = none ∨ a ∈ f.W)) (ndj : ∀ a ∈ r'.F, ∀ m q, m ≠ k → rs'[m]? = some q → rs[g m]? = some q → a ∉ q.F)
    (hS : ∀ a, S a → S' a) (hS' : ∀ m q, m ≠ k → rs'[m]? = some q → rs[g m]? = some q → ∀ a ∈ q.F, ¬ S' a)
    (kp : ∀ m q, m ≠ k → rs'[m]? = some q → rs[g m]? = some q → Kp H H' S q.F ∧ (∀ t, q.e = .ro t → Kp H H' (fun _ => True) []))
    (trk : ∀ a, S' a → H' a ≠ none) (fr : ∀ a o, f.H0 a = some o → a ∉ f.W → Stay o (H' a)) (tb : TbOk H') (src : ∀ a, S' a → f.S0 a ∨ f.H0 a = none ∨ a ∈ f.W) : Good K f S' rs' H' where
  slot := fun m r e => by
    by_cases hm : m = k
    · subst hm
      rw [hk] at e; cases e
      exact ⟨new, nd, nS⟩
    · rcases old m r hm e with ⟨h2, h3⟩ | h1
      · refine ⟨?_, by rw [h3]; exact List.nodup_nil, fun a z => by rw [h3] at z; cases z⟩
        rw [h2]; exact h3
      · obtain ⟨a, b, c⟩ := G.slot _ _ h1
        obtain ⟨kp1, kp2⟩ := kp m r hm e h1
        exact ⟨a.keep hS kp1 kp2, b, fun x hx => ⟨hS' m r hm e h1 x hx, (c x hx).2⟩⟩
  dj := fun m l r q e1 e2 ne a ha hb => by
    by_cases hm : m = k
    · subst hm
      rw [hk] at e1; cases e1
      have hl : l ≠ m := fun z => ne z.symm
      rcases old l q hl e2 with ⟨_, h4⟩ | h3
      · rw [h4] at hb; cases hb
      · exact ndj a ha l q hl e2 h3 hb
    · rcases old m r hm e1 with ⟨_, h2⟩ | h1
      · rw [h2] at ha; cases ha
      · by_cases hl : l = k
        · subst hl
          rw [hk] at e2; cases e2
          exact ndj a hb m r hm e1 h1 ha
        · rcases old l q hl e2 with ⟨_, h4⟩ | h3
          · rw [h4] at hb; cases hb
          · exact G.dj _ _ _ _ h1 h3 (fun z => ne (inj m l r q hm hl e1 e2 (List.ne_nil_of_mem ha) (List.ne_nil_of_mem hb) z)) a ha hb
  trk := trk
  fr := fr
  src := src
  tb := tb
end
end TL
set_option Elab.async false
set_option linter.all false
set_option maxRecDepth 100000
namespace TL
open PySem PySem.Spec PyProof.Rows L2

abbrev tmp (n : Nat) (t : T) (v : V) (F : List Addr) : Root := ⟨.ow n t, some v, F⟩
theorem getElem?_app {α : Type} {l r : List α} {i : Nat} {x : α} (h : l[i]? = some x) : (l ++ r)[i]? = some x := by
  rw [List.getElem?_append_left (List.getElem?_eq_some_iff.mp h).1]; exact h
theorem app_old {α : Type} {l r : List α} {x : α} {m : Nat} {y : α} (h : (l ++ r ++ [x])[m]? = some y) : (m = (l ++ r).length ∧ y = x) ∨ (m < (l ++ r).length ∧ (l ++ r)[m]? = some y) := by
  by_cases hm : m < (l ++ r).length
  · exact .inr ⟨hm, by rw [List.getElem?_append_left hm] at h; exact h⟩
  · have hl := (List.getElem?_eq_some_iff.mp h).1
    rw [List.length_append, List.length_singleton] at hl
    have e : m = (l ++ r).length := by omega
    rw [e, List.getElem?_append_right (Nat.le_refl _), Nat.sub_self] at h
    exact .inl ⟨e, by simpa using h.symm⟩
theorem getElem?_last {α : Type} {l : List α} {x : α} : (l ++ [x])[l.length]? = some x := by
  rw [List.getElem?_append_right (Nat.le_refl _), Nat.sub_self]; rfl
section
variable {K : PySem.W.Frag} {f : Fm} {S S' : Addr → Prop} {H H' : Hp} {τ τ' rs rs' : List Root} {ρ ρ' : List Ent} {σ : St}
theorem Good.own_there (G : Good K f S rs H) {k : Nat} {r : Root} (h : rs[k]? = some r) {a : Addr} (ha : a ∈ r.F) : ∃ o : HO, H a = some o := by
  have z := (G.slot k r h).1
  cases e : r.e with
  | no =>
    have z' : r.F = [] := by rw [e] at z; exact z
    rw [z'] at ha; cases ha
  | ow n u => rw [e] at z; obtain ⟨v, _, q⟩ := z; exact q.there a ha
  | io n u => rw [e] at z; obtain ⟨v, _, q⟩ := z; exact q.there a ha
  | ro u =>
    have z' : r.F = [] := by rw [e] at z; exact z.1
    rw [z'] at ha; cases ha
  | al j i u =>
    have z' : r.F = [] := by rw [e] at z; exact z.1
    rw [z'] at ha; cases ha
theorem Good.own_nt (G : Good K f S rs H) {k : Nat} {r : Root} (h : rs[k]? = some r) {a : Addr} (ha : a ∈ r.F) {o : HO} (e : H a = some o) : (∀ xs, o ≠ .tup xs) ∧ ∀ ob u, o ≠ .frz ob u := by
  have z := (G.slot k r h).1
  cases q : r.e with
  | no =>
    have z' : r.F = [] := by rw [q] at z; exact z
    rw [z'] at ha; cases ha
  | ow n u => rw [q] at z; obtain ⟨v, _, x⟩ := z; exact x.nt a ha o e
  | io n u => rw [q] at z; obtain ⟨v, _, x⟩ := z; exact x.nt a ha o e
  | ro u =>
    have z' : r.F = [] := by rw [q] at z; exact z.1
    rw [z'] at ha; cases ha
  | al j i u =>
    have z' : r.F = [] := by rw [q] at z; exact z.1
    rw [z'] at ha; cases ha
theorem Good.own_nx (G : Good K f S rs H) {k : Nat} {r : Root} (h : rs[k]? = some r) {a : Addr} (ha : a ∈ r.F) {o : HO} (e : H a = some o) : NTbl o := by
  have z := (G.slot k r h).1
  cases q : r.e with
  | no =>
    have z' : r.F = [] := by rw [q] at z; exact z
    rw [z'] at ha; cases ha
  | ow n u => rw [q] at z; obtain ⟨v, _, x⟩ := z; exact x.nx a ha o e
  | io n u => rw [q] at z; obtain ⟨v, _, x⟩ := z; exact x.nx a ha o e
  | ro u =>
    have z' : r.F = [] := by rw [q] at z; exact z.1
    rw [z'] at ha; cases ha
  | al j i u =>
    have z' : r.F = [] := by rw [q] at z; exact z.1
    rw [z'] at ha; cases ha
theorem Good.none_src (G : Good K f S rs H) {a : Addr} (h : H a = none) : f.H0 a = none ∨ a ∈ f.W := by
  by_cases w : a ∈ f.W
  · exact .inr w
  · cases q : f.H0 a with
    | none => exact .inl rfl
    | some o => exact absurd h (G.fr a o q w).sm
/-- what came new may be shared -/
def grown (S : Addr → Prop) (H H' : Hp) : Addr → Prop := fun a => fresh S H a ∧ H' a ≠ none
theorem StaW.grow (s : StaW K f τ ρ σ H S rs) (k : Same H H') : StaW K f τ ρ σ H' (grown S H H') rs where
  e := s.e
  o := s.o
  good := {
    slot := fun m r e => by
      obtain ⟨a, b, c⟩ := s.good.slot m r e
      refine ⟨a.keep (fun x z => ⟨.inl z, fun y => s.good.trk x z (k.free y)⟩) (.same k) (fun _ _ => .same k), b, fun x hx => ⟨fun z => ?_, (c x hx).2⟩⟩
      rcases z.1 with z | z
      · exact (c x hx).1 z
      · obtain ⟨vs, e2⟩ := s.good.own_there e hx
        rw [z] at e2; cases e2
    dj := s.good.dj
    trk := fun a h => h.2
    fr := fun a o h1 h2 => k.stay (s.good.fr a o h1 h2)
    tb := k.tb s.good.tb
    src := fun a h => by
      rcases h.1 with z | z
      · exact s.good.src a z
      · exact .inr (s.good.none_src z) }
  al := fun k' j i t h => ((s.al k' j i t h).same k).mono fun x z => ⟨.inl z, fun y => s.good.trk x z (k.free y)⟩
  io := s.io
  tm := s.tm
theorem shr_grown {t : T} {v : V} (h : Shr K H' (fresh S H) t v) : Shr K H' (grown S H H') t v := h.trk
theorem tm_app (h : ∀ r ∈ τ, ∃ n t, r.e = .ow n t) {r : Root} (hr : ∃ n t, r.e = .ow n t) : ∀ q ∈ τ ++ [r], ∃ n t, q.e = .ow n t := fun q hq => by
  rcases List.mem_append.mp hq with hq | hq
  · exact h q hq
  · rw [List.mem_singleton.mp hq]; exact hr
/-- a shared value held -/
theorem StaW.pushS (s : StaW K f τ ρ σ H S rs) {t : T} {v : V} (h : Shr K H S t v) : StaW K f (τ ++ [tmp 0 t v []]) ρ σ H S rs where
  e := s.e
  o := s.o
  good := by
    rw [← List.append_assoc]
    exact {
      slot := fun m r e => by
        rcases app_old e with ⟨_, rfl⟩ | ⟨_, e⟩
        · exact ⟨⟨v, rfl, h⟩, List.nodup_nil, fun a z => nomatch z⟩
        · exact s.good.slot m r e
      dj := fun m l r q e1 e2 ne a ha hb => by
        rcases app_old e1 with ⟨_, rfl⟩ | ⟨_, e1⟩
        · cases ha
        · rcases app_old e2 with ⟨_, rfl⟩ | ⟨_, e2⟩
          · cases hb
          · exact s.good.dj m l r q e1 e2 ne a ha hb
      trk := s.good.trk
      fr := s.good.fr
      tb := s.good.tb
      src := s.good.src }
  al := s.al
  io := s.io
  tm := tm_app s.tm ⟨_, _, rfl⟩
/-- a new owned list held -/
theorem StaW.pushNew (s : StaW K f τ ρ σ H S rs) {p : Addr} (hp : H p = none) {n : Nat} {kd : NK} {o : HO} {ts : List T} {vs : List V} (hk : kd.is o vs) (h : Owns K (upd H p o) S n ts vs []) : StaW K f (τ ++ [tmp (n + 1) (.nd kd ts) (.ref p) [p]]) ρ σ (upd H p o) S rs := by
  have k : Same H (upd H p o) := Same.new hp hk.nt
  have s' := s.same k
  refine ⟨s.e, s.o, ?_, s'.al, s.io, tm_app s.tm ⟨_, _, rfl⟩⟩
  rw [← List.append_assoc]
  have nw : ∀ {m : Nat} {r : Root}, (rs ++ τ)[m]? = some r → p ∉ r.F := fun e hm => by
    obtain ⟨vs, q⟩ := s.good.own_there e hm
    rw [hp] at q; cases q
  exact {
    slot := fun m r e => by
      rcases app_old e with ⟨_, rfl⟩ | ⟨_, e⟩
      · refine ⟨⟨.ref p, rfl, .nd upd_same hk h⟩, by simp, fun a z => ?_⟩
        have e : a = p := by simpa using z
        subst e
        exact ⟨fun z => s.good.trk a z hp, s.good.none_src hp⟩
      · exact s'.good.slot m r e
    dj := fun m l r q e1 e2 ne a ha hb => by
      rcases app_old e1 with ⟨d1, rfl⟩ | ⟨_, g1⟩
      · have e : a = p := by simpa using ha
        rcases app_old e2 with ⟨d2, rfl⟩ | ⟨_, g2⟩
        · exact ne (d1.trans d2.symm)
        · exact nw g2 (e ▸ hb)
      · rcases app_old e2 with ⟨_, rfl⟩ | ⟨_, g2⟩
        · have e : a = p := by simpa using hb
          exact nw g1 (e ▸ ha)
        · exact s.good.dj m l r q g1 g2 ne a ha hb
    trk := s'.good.trk
    fr := s'.good.fr
    tb := s'.good.tb
    src := s.good.src }
theorem StaW.pop (s : StaW K f (τ ++ τ') ρ σ H S rs) : StaW K f τ ρ σ H S rs where
  e := s.e
  o := s.o
  good := s.good.pick (fun m => m) (fun m r e => .inr (by rw [← List.append_assoc]; exact getElem?_app e)) fun _ _ _ _ _ _ _ _ z => z
  al := s.al
  io := s.io
  tm := fun r h => s.tm r (List.mem_append_left _ h)
theorem Sta.pop (s : Sta K f (τ ++ τ') ρ σ H) : Sta K f τ ρ σ H := let ⟨S, rs, s⟩ := s; ⟨S, rs, s.pop⟩

/-! ### slots stored -/
theorem noAl_cases (i : Nat) (e : Ent) : noAl i e = e ∨ (∃ k t, e = .al i k t ∧ noAl i e = .no) := by
  cases e with
  | al j k t =>
    by_cases h : j = i
    · subst h; exact .inr ⟨k, t, rfl, by simp [noAl]⟩
    · exact .inl (by simp [noAl, h])
  | no => exact .inl rfl
  | ow _ _ => exact .inl rfl
  | io _ _ => exact .inl rfl
  | ro _ => exact .inl rfl
theorem noAl_own (i : Nat) (e : Ent) : (noAl i e).own = e.own := by
  rcases noAl_cases i e with h | ⟨k, t, h, h2⟩
  · rw [h]
  · rw [h2, h]; rfl
theorem noAl_al {i j k : Nat} {e : Ent} {t : T} (h : noAl i e = .al j k t) : e = .al j k t ∧ j ≠ i := by
  cases e with
  | al j' k' t' =>
    by_cases hj : j' = i
    · simp [noAl, hj] at h
    · simp [noAl, hj] at h
      obtain ⟨rfl, rfl, rfl⟩ := h
      exact ⟨rfl, hj⟩
  | no => cases h
  | ow _ _ => cases h
  | io _ _ => cases h
  | ro _ => cases h
theorem noAl_io {i : Nat} {e : Ent} {n : Nat} {t : T} (h : noAl i e = .io n t) : e = .io n t := by
  rcases noAl_cases i e with q | ⟨k, u, _, q⟩
  · rw [← q]; exact h
  · rw [q] at h; cases h
theorem setE_get {ρ : List Ent} {i k : Nat} {x e : Ent} (h : (setE ρ i e)[k]? = some x) (ne : k ≠ i) : ∃ y, ρ[k]? = some y ∧ x = noAl i y := by
  unfold setE at h
  rw [List.getElem?_set_ne (Ne.symm ne)] at h
  unfold killA at h
  rw [List.getElem?_map] at h
  cases q : ρ[k]? with
  | none => rw [q] at h; cases h
  | some y => rw [q] at h; exact ⟨y, rfl, (Option.some.inj h).symm⟩
theorem setE_same {ρ : List Ent} {i : Nat} {x e : Ent} (h : (setE ρ i e)[i]? = some x) : x = e := by
  unfold setE at h
  have hl := (List.getElem?_eq_some_iff.mp h).1
  rw [List.length_set] at hl
  rw [List.getElem?_set_self hl] at h
  exact (Option.some.inj h).symm
theorem setE_other {ρ : List Ent} {i j : Nat} {e : Ent} (ne : j ≠ i) : (setE ρ i e)[j]?.bind Ent.own = ρ[j]?.bind Ent.own := by
  unfold setE killA
  rw [List.getElem?_set_ne (Ne.symm ne), List.getElem?_map]
  cases q : ρ[j]? with
  | none => rfl
  | some y => exact noAl_own i y
def Root.noAl (i : Nat) (r : Root) : Root := ⟨TL.noAl i r.e, r.o, r.F⟩
theorem StaW.alF (s : StaW K f τ ρ σ H S rs) {m : Nat} {r : Root} (h : (rs ++ τ)[m]? = some r) {j k : Nat} {t : T} (e : r.e = .al j k t) : r.F = [] := by
  have z := (s.good.slot m r h).1
  rw [e] at z
  exact z.1
/-- the last temporary goes into slot i -/
theorem StaW.setV {i n : Nat} {t : T} {v : V} {F : List Addr} (s : StaW K f (τ ++ [tmp n t v F]) ρ σ H S rs) (hi : i < ρ.length) : StaW K f τ (setE ρ i (.ow n t)) (σ.set i (some v)) H S ((rs.map (Root.noAl i)).set i (tmp n t v F)) where
  e := by
    rw [List.map_set, List.map_map]
    unfold setE killA
    rw [← s.e, List.map_map]
    rfl
  o := by
    rw [List.map_set, List.map_map]
    show (List.map (fun r => r.o) rs).set i (some v) = σ.set i (some v)
    rw [s.o]
  good := by
    have hl := s.len
    have len : ((rs.map (Root.noAl i)).set i (tmp n t v F)).length = rs.length := by rw [List.length_set, List.length_map]
    refine s.good.pick (fun m => if m = i then rs.length + τ.length else m) (fun m r e => ?_) fun a b ra rb ha hb _ _ z => ?_
    · by_cases hm : m = i
      · subst hm
        rw [if_pos rfl]
        right
        rw [List.getElem?_append_left (by omega), List.getElem?_set_self (by rw [List.length_map]; omega)] at e
        rw [← Option.some.inj e, ← List.append_assoc]
        have := getElem?_last (l := rs ++ τ) (x := tmp n t v F)
        rw [List.length_append] at this
        exact this
      · rw [if_neg hm]
        by_cases hlt : m < rs.length
        · rw [List.getElem?_append_left (by omega), List.getElem?_set_ne (Ne.symm hm), List.getElem?_map] at e
          cases q : rs[m]? with
          | none => rw [q] at e; cases e
          | some r0 =>
            rw [q] at e
            have e := (Option.some.inj e).symm
            rcases noAl_cases i r0.e with h | ⟨k, u, h, h2⟩
            · right
              rw [e]
              unfold Root.noAl
              rw [h]
              exact getElem?_app q
            · left
              rw [e]
              exact ⟨h2, show r0.F = [] from s.alF (getElem?_app q) h⟩
        · rw [List.getElem?_append_right (by omega), len] at e
          right
          rw [List.getElem?_append_right (by omega)]
          exact getElem?_app e
    · have ha := (List.getElem?_eq_some_iff.mp ha).1
      have hb := (List.getElem?_eq_some_iff.mp hb).1
      rw [List.length_append, len] at ha hb
      by_cases h1 : a = i
      · by_cases h2 : b = i
        · omega
        · rw [if_pos h1, if_neg h2] at z; omega
      · by_cases h2 : b = i
        · rw [if_neg h1, if_pos h2] at z; omega
        · rw [if_neg h1, if_neg h2] at z; exact z
  al := fun k j l u h => by
    by_cases hk : k = i
    · subst hk
      have := setE_same h
      cases this
    · obtain ⟨y, hy, e⟩ := setE_get h hk
      obtain ⟨e2, nj⟩ := noAl_al e.symm
      subst e2
      obtain ⟨r, n', U, v0, v1, Fi, a1, a2, a3, a4, a5, a6, a7⟩ := (s.al k j l u hy).ex
      refine ⟨⟨r.noAl i, n', U, v0, v1, Fi, ?_, ?_, a3, ?_, a5, a6, a7⟩⟩
      · rw [List.getElem?_set_ne (Ne.symm nj), List.getElem?_map, a1]; rfl
      · exact (noAl_own i r.e).trans a2
      · rw [List.getElem?_set_ne (Ne.symm hk)]; exact a4
  io := fun k n' u h => by
    by_cases hk : k = i
    · subst hk
      have := setE_same h
      cases this
    · obtain ⟨y, hy, e⟩ := setE_get h hk
      have e2 := noAl_io e.symm
      subst e2
      rw [List.getElem?_set_ne (Ne.symm hk)]
      exact s.io k n' u hy
  tm := fun r h => s.tm r (List.mem_append_left _ h)
theorem Sta.setV {i n : Nat} {t : T} {v : V} {F : List Addr} (s : Sta K f (τ ++ [tmp n t v F]) ρ σ H) (hi : i < ρ.length) : Sta K f τ (setE ρ i (.ow n t)) (σ.set i (some v)) H := let ⟨S, rs, s⟩ := s; ⟨S, _, s.setV hi⟩
end
end TL
set_option Elab.async false
set_option linter.all false
set_option maxRecDepth 100000
namespace TL
open PySem PySem.Spec PyProof.Rows L2

def T.put (x : T) : List Nat → T → T
  | [], _ => x
  | i :: p, .nd k ts => .nd k (ts.set i (T.put x p (ts.getD i .non)))
  | i :: p, .tup ts => .tup (ts.set i (T.put x p (ts.getD i .non)))
  | _ :: _, t => t
theorem set_self {α : Type} : ∀ {l : List α} {i : Nat} {x : α}, l[i]? = some x → l.set i x = l
  | [], _, _, h => by simp at h
  | a :: l, 0, x, h => by simp at h; subst h; rfl
  | a :: l, i + 1, x, h => by
    show a :: l.set i x = a :: l
    rw [set_self (by simpa using h)]
section
variable {K : PySem.W.Frag} {f : Fm} {S S' : Addr → Prop} {H H' : Hp} {τ τ' rs rs' : List Root} {ρ ρ' : List Ent} {σ : St}
theorem Owns.split : ∀ {ts : List T} {vs : List V} {F : List Addr} {n i : Nat} {t : T} {v : V}, Owns K H S n ts vs F → ts[i]? = some t → vs[i]? = some v →
    ∃ F1 Fi F2, F = F1 ++ Fi ++ F2 ∧ Own K H S n t v Fi ∧ ∀ (H' : Hp) (S' : Addr → Prop) (t' : T) (v' : V) (Fi' : List Addr), (∀ a, S a → S' a) → Kp H H' S F1 → Kp H H' S F2 → Own K H' S' n t' v' Fi' → Owns K H' S' n (ts.set i t') (vs.set i v') (F1 ++ Fi' ++ F2)
  | [], _, _, _, _, _, _, _, h, _ => by simp at h
  | u :: ts, _, _, n, 0, t, v, h, e1, e2 => by
    cases h with
    | @cons n t0 ts v0 vs F G a r =>
      simp at e1 e2
      subst e1; subst e2
      refine ⟨[], F, G, by simp, a, fun H' S' t' v' Fi' hS _ k2 a' => ?_⟩
      exact Owns.cons a' (r.keep hS k2)
  | u :: ts, _, _, n, i + 1, t, v, h, e1, e2 => by
    cases h with
    | @cons n t0 ts v0 vs F G a r =>
      obtain ⟨F1, Fi, F2, rfl, o, k⟩ := Owns.split (i := i) r (by simpa using e1) (by simpa using e2)
      refine ⟨F ++ F1, Fi, F2, by simp, o, fun H' S' t' v' Fi' hS k1 k2 a' => ?_⟩
      have z := Owns.cons (a.keep hS (k1.sub fun b m => List.mem_append_left _ m)) (k H' S' t' v' Fi' hS (k1.sub fun b m => List.mem_append_right _ m) k2 a')
      have e : F ++ (F1 ++ Fi' ++ F2) = F ++ F1 ++ Fi' ++ F2 := by simp
      rw [← e]
      exact z
theorem flat_no_way {t u : T} {v x : V} {p : List Nat} {kd : NK} {ts : List T} (w : Way H t v p u x) (hu : u = .nd kd ts) (h : t.flat = true) : False := by
  induction w with
  | nil => subst hu; rw [T.flat, T.flatAt] at h; cases h
  | nd _ _ _ _ _ _ => rw [T.flat, T.flatAt] at h; cases h
  | tup _ _ h3 _ ih =>
    refine ih hu ?_
    rw [T.flat, T.flatAt, flatAts_iff] at h
    exact h _ (List.mem_of_getElem? h3)
theorem flat_way {t u : T} {v x : V} {p : List Nat} (w : Way H t v p u x) (h : t.flat = true) : u.flat = true := by
  induction w with
  | nil => exact h
  | nd _ _ _ _ _ _ => rw [T.flat, T.flatAt] at h; cases h
  | tup _ _ h3 _ ih =>
    refine ih ?_
    rw [T.flat, T.flatAt, flatAts_iff] at h
    exact h _ (List.mem_of_getElem? h3)
/-- a list that is owned, by its way: what it holds, and the whole with it changed -/
theorem Own.way {t0 u : T} {v0 x : V} {p : List Nat} (w : Way H t0 v0 p u x) : ∀ {kd : NK} {ts : List T} {a : Addr} {n : Nat} {F : List Addr}, u = .nd kd ts → x = .ref a → Own K H S n t0 v0 F → p.length < n → F.Nodup →
    ∃ o vs F1 Fs F2, F = F1 ++ a :: Fs ++ F2 ∧ H a = some o ∧ kd.is o vs ∧ Owns K H S (n - p.length - 1) ts vs Fs ∧ (p ≠ [] → v0 ≠ .ref a) ∧
      ∀ (H' : Hp) (S' : Addr → Prop) (kd' : NK) (o' : HO) (vs' : List V) (ts' : List T) (Fs' : List Addr), (∀ b, S b → S' b) → (∀ b xs, H b = some (.tup xs) → H' b = some (.tup xs)) → (∀ b o u, H b = some (.frz o u) → H' b = some (.frz o u)) → (∀ b φ, H b = some (.ext φ) → H' b = some (.ext φ)) →
        (∀ b ob, b ≠ a → (S b ∨ b ∈ F) → H b = some ob → H' b = some ob) → ¬ S a → H' a = some o' → kd'.is o' vs' → Owns K H' S' (n - p.length - 1) ts' vs' Fs' → Own K H' S' n (T.put (.nd kd' ts') p t0) v0 (F1 ++ a :: Fs' ++ F2) := by
  induction w with
  | nil =>
    rintro kd ts a n F rfl rfl h hp nd
    cases h with
    | snd _ _ => exact absurd hp (by simp)
    | @nd n _ _ o vs _ F q ki r =>
      refine ⟨o, vs, [], F, [], by simp, q, ki, r, fun z => absurd rfl z, fun H' S' kd' o' vs' ts' Fs' hS h1 h2 hx h3 _ h4 h5 r' => ?_⟩
      have z := Own.nd h4 h5 r'
      have e : ([] : List Addr) ++ a :: Fs' ++ [] = a :: Fs' := by simp
      rw [e]
      exact z
  | @nd b k0 o0 vs0 ts0 i t1 t2 v1 v2 p g1 g0 g2 g3 w ih =>
    intro kd ts a n F hu hx h hp nd
    cases h with
    | snd _ _ => exact absurd hp (by simp)
    | @nd n _ _ o2 vs2 _ F q ki r =>
      rw [g1] at q
      have e := Option.some.inj q
      subst e
      have e := g0.inj ki
      subst e
      obtain ⟨G1, Fi, G2, rfl, o, k⟩ := Owns.split r g3 g2
      obtain ⟨nb, nd'⟩ := List.nodup_cons.mp nd
      have ndi : Fi.Nodup := (List.nodup_append.mp (List.nodup_append.mp nd').1).2.1
      obtain ⟨oa, vs, F1, Fs, F2, rfl, q2, ka, r2, _, k2⟩ := ih hu hx o (by simp at hp; omega) ndi
      have en : n + 1 - (i :: p).length - 1 = n - p.length - 1 := by rw [List.length_cons]; omega
      have ne : b ≠ a := fun z => by
        subst z
        exact nb (by simp)
      refine ⟨oa, vs, b :: G1 ++ F1, Fs, F2 ++ G2, by simp, q2, ka, by rw [en]; exact r2, fun _ z => ne (V.ref.inj z), fun H' S' kd' o' vs' ts' Fs' hS h1 h2 hx h3 hSa h4 h5 r' => ?_⟩
      rw [en] at r'
      obtain ⟨n1, n2, n3⟩ := List.nodup_append.mp nd'
      obtain ⟨n4, n5, n6⟩ := List.nodup_append.mp n1
      have kp1 : Kp H H' S G1 := ⟨h1, h2, fun c xs hc _ e => h3 c xs (fun z => by
        subst z
        rcases hc with hc | hc
        · exact hSa hc
        · exact n6 c hc c (by simp) rfl) (hc.imp_right fun m => by simp [m]) e, hx⟩
      have kp2 : Kp H H' S G2 := ⟨h1, h2, fun c xs hc _ e => h3 c xs (fun z => by
        subst z
        rcases hc with hc | hc
        · exact hSa hc
        · exact n3 c (by simp) c hc rfl) (hc.imp_right fun m => by simp [m]) e, hx⟩
      have z := k2 H' S' kd' o' vs' ts' Fs' hS h1 h2 hx (fun c xs hc hd e => h3 c xs hc (hd.imp_right fun m => by
        simp at m ⊢
        rcases m with m | m | m | m <;> simp [m]) e) hSa h4 h5 r'
      have z2 := k H' S' _ _ _ hS kp1 kp2 z
      rw [set_self g2] at z2
      have z3 := Own.nd (h3 b _ ne (.inr List.mem_cons_self) g1) g0 z2
      have e1 : ts0.getD i T.non = t1 := by rw [List.getD_eq_getElem?_getD, g3]; rfl
      rw [T.put, e1]
      have e2 : b :: (G1 ++ (F1 ++ a :: Fs' ++ F2) ++ G2) = b :: G1 ++ F1 ++ a :: Fs' ++ (F2 ++ G2) := by simp
      rw [← e2]
      exact z3
  | @tup b vs0 ts0 i t1 t2 v1 v2 p g1 g2 g3 w ih =>
    intro kd ts a n F hu hx h hp nd
    cases h with
    | tupf _ f _ => exact (flat_no_way w hu (flatAts_iff.mp f _ (List.mem_of_getElem? g3))).elim
    | tup0 _ _ => exact absurd hp (by simp)
    | @tup n _ vs2 _ F q r =>
      rw [g1] at q
      have e : vs0 = vs2 := HO.tup.inj (Option.some.inj q)
      subst e
      obtain ⟨G1, Fi, G2, rfl, o, k⟩ := Owns.split r g3 g2
      have ndi : Fi.Nodup := (List.nodup_append.mp (List.nodup_append.mp nd).1).2.1
      obtain ⟨oa, vs, F1, Fs, F2, rfl, q2, ka, r2, _, k2⟩ := ih hu hx o (by simp at hp; omega) ndi
      have en : n + 1 - (i :: p).length - 1 = n - p.length - 1 := by rw [List.length_cons]; omega
      have ne : b ≠ a := fun z => by
        subst z
        rw [g1] at q2
        exact ka.ntup (Option.some.inj q2).symm
      refine ⟨oa, vs, G1 ++ F1, Fs, F2 ++ G2, by simp, q2, ka, by rw [en]; exact r2, fun _ z => ne (V.ref.inj z), fun H' S' kd' o' vs' ts' Fs' hS h1 h2 hx h3 hSa h4 h5 r' => ?_⟩
      rw [en] at r'
      obtain ⟨n1, n2, n3⟩ := List.nodup_append.mp nd
      obtain ⟨n4, n5, n6⟩ := List.nodup_append.mp n1
      have kp1 : Kp H H' S G1 := ⟨h1, h2, fun c xs hc _ e => h3 c xs (fun z => by
        subst z
        rcases hc with hc | hc
        · exact hSa hc
        · exact n6 c hc c (by simp) rfl) (hc.imp_right fun m => by simp [m]) e, hx⟩
      have kp2 : Kp H H' S G2 := ⟨h1, h2, fun c xs hc _ e => h3 c xs (fun z => by
        subst z
        rcases hc with hc | hc
        · exact hSa hc
        · exact n3 c (by simp) c hc rfl) (hc.imp_right fun m => by simp [m]) e, hx⟩
      have z := k2 H' S' kd' o' vs' ts' Fs' hS h1 h2 hx (fun c xs hc hd e => h3 c xs hc (hd.imp_right fun m => by
        simp at m ⊢
        rcases m with m | m | m | m <;> simp [m]) e) hSa h4 h5 r'
      have z2 := k H' S' _ _ _ hS kp1 kp2 z
      rw [set_self g2] at z2
      have z3 := Own.tup (h1 b _ g1) z2
      have e1 : ts0.getD i T.non = t1 := by rw [List.getD_eq_getElem?_getD, g3]; rfl
      rw [T.put, e1]
      have e2 : (G1 ++ (F1 ++ a :: Fs' ++ F2) ++ G2) = G1 ++ F1 ++ a :: Fs' ++ (F2 ++ G2) := by simp
      rw [← e2]
      exact z3

/-- the part at the end of a way is owned as deep as is left -/
theorem Own.sub {t0 u : T} {v0 x : V} {p : List Nat} (w : Way H t0 v0 p u x) : ∀ {n : Nat} {F : List Addr}, Own K H S n t0 v0 F → p.length ≤ n → (t0.flat = false ∨ p = []) → u.flat = false → ∃ Fi, Own K H S (n - p.length) u x Fi ∧ ∀ b ∈ Fi, b ∈ F := by
  induction w with
  | nil => exact fun {n F} h _ _ _ => ⟨F, h, fun _ z => z⟩
  | @nd b k0 o0 vs0 ts0 i t1 t2 v1 v2 p g1 g0 g2 g3 w ih =>
    intro n F h hp _ hu
    cases h with
    | snd _ _ => exact absurd hp (by simp)
    | @nd n _ _ o2 vs2 _ F q ki r =>
      rw [g1] at q
      have e := Option.some.inj q
      subst e
      have e := g0.inj ki
      subst e
      obtain ⟨G1, Fi, G2, rfl, o, _⟩ := Owns.split r g3 g2
      have f1 : t1.flat = false ∨ p = [] := by
        cases p with
        | nil => exact .inr rfl
        | cons _ _ =>
          left
          cases hf : t1.flat with
          | false => rfl
          | true =>
            exfalso
            have := (flat_way w hf)
            rw [this] at hu; cases hu
      obtain ⟨Fj, o2, s2⟩ := ih o (by simp at hp; omega) f1 hu
      have en : n + 1 - (i :: p).length = n - p.length := by rw [List.length_cons]; omega
      exact ⟨Fj, by rw [en]; exact o2, fun c hc => List.mem_cons_of_mem _ (by simp [s2 c hc])⟩
  | @tup b vs0 ts0 i t1 t2 v1 v2 p g1 g2 g3 w ih =>
    intro n F h hp hf0 hu
    cases h with
    | tupf _ f _ =>
      rcases hf0 with hf0 | hf0
      · rw [T.flat, T.flatAt] at hf0; rw [T.flats] at f; simp at hf0; rw [hf0] at f; cases f
      · cases hf0
    | tup0 _ _ => exact absurd hp (by simp)
    | @tup n _ vs2 _ F q r =>
      rw [g1] at q
      have e : vs0 = vs2 := HO.tup.inj (Option.some.inj q)
      subst e
      obtain ⟨G1, Fi, G2, rfl, o, _⟩ := Owns.split r g3 g2
      have f1 : t1.flat = false ∨ p = [] := by
        cases p with
        | nil => exact .inr rfl
        | cons _ _ =>
          left
          cases hf : t1.flat with
          | false => rfl
          | true =>
            exfalso
            have := (flat_way w hf)
            rw [this] at hu; cases hu
      obtain ⟨Fj, o2, s2⟩ := ih o (by simp at hp; omega) f1 hu
      have en : n + 1 - (i :: p).length = n - p.length := by rw [List.length_cons]; omega
      exact ⟨Fj, by rw [en]; exact o2, fun c hc => by simp [s2 c hc]⟩

/-! ### slots forgotten -/
theorem StaW.wk (s : StaW K f τ ρ σ H S rs) (h : Ent → Ent) (h1 : ∀ e, h e = e ∨ h e = .no) (h2 : ∀ e, e.own ≠ none → h e = e) : StaW K f τ (ρ.map h) σ H S (rs.map fun r => ⟨h r.e, r.o, if (h r.e).tr.isSome then r.F else []⟩) where
  e := by rw [← s.e, List.map_map, List.map_map]; rfl
  o := by rw [← s.o, List.map_map]; rfl
  good := by
    have len : (rs.map fun r => (⟨h r.e, r.o, if (h r.e).tr.isSome then r.F else []⟩ : Root)).length = rs.length := by rw [List.length_map]
    refine s.good.pick (fun m => m) (fun m r e => ?_) fun _ _ _ _ _ _ _ _ z => z
    by_cases hlt : m < rs.length
    · rw [List.getElem?_append_left (by omega), List.getElem?_map] at e
      cases q : rs[m]? with
      | none => rw [q] at e; cases e
      | some r0 =>
        rw [q] at e
        have e : r = ⟨h r0.e, r0.o, if (h r0.e).tr.isSome then r0.F else []⟩ := (Option.some.inj e).symm
        rcases h1 r0.e with z | z
        · by_cases ht : r0.e.tr.isSome = true
          · right
            rw [e, z, if_pos ht]
            exact getElem?_app q
          · have z0 : r0.e = .no := by
              cases er : r0.e <;> first | rfl | (rw [er] at ht; simp [Ent.tr] at ht)
            left
            rw [e, z, z0]
            exact ⟨rfl, rfl⟩
        · left
          rw [e, z]
          exact ⟨rfl, rfl⟩
    · rw [List.getElem?_append_right (by omega), len] at e
      right
      rw [List.getElem?_append_right (by omega)]
      exact e
  al := fun k j i t hh => by
    rw [List.getElem?_map] at hh
    cases q : ρ[k]? with
    | none => rw [q] at hh; cases hh
    | some e =>
      rw [q] at hh
      have hh := Option.some.inj hh
      rcases h1 e with z | z
      · rw [z] at hh
        subst hh
        obtain ⟨r, n, U, v0, v, Fi, a1, a2, a3, a4, a5, a6, a7⟩ := (s.al k j i t q).ex
        have er : h r.e = r.e := h2 r.e (by rw [a2]; intro z; cases z)
        refine ⟨⟨⟨h r.e, r.o, if (h r.e).tr.isSome then r.F else []⟩, n, U, v0, v, Fi, by rw [List.getElem?_map, a1]; rfl, ?_, a3, a4, a5, a6, ?_⟩⟩
        · show (h r.e).own = _
          rw [er]; exact a2
        · show ∀ b ∈ Fi, b ∈ (if (h r.e).tr.isSome then r.F else [])
          have et : (h r.e).tr.isSome = true := by
            rw [er]
            cases e2 : r.e <;> rw [e2] at a2 <;> first | rfl | cases a2
          rw [if_pos et]
          exact a7
      · rw [z] at hh; cases hh
  io := fun i n t hh => by
    rw [List.getElem?_map] at hh
    cases q : ρ[i]? with
    | none => rw [q] at hh; cases hh
    | some e =>
      rw [q] at hh
      have hh := Option.some.inj hh
      rcases h1 e with z | z
      · rw [z] at hh
        subst hh
        exact s.io i n t q
      · rw [z] at hh; cases hh
  tm := s.tm
theorem noRo_cases (js : List Nat) (e : Ent) : noRo js e = e ∨ noRo js e = .no := by
  cases e with
  | al j i t =>
    by_cases h : j ∈ js
    · exact .inr (by simp [noRo, h])
    · exact .inl (by simp [noRo, h])
  | ro t => exact .inr rfl
  | no => exact .inl rfl
  | ow _ _ => exact .inl rfl
  | io _ _ => exact .inl rfl
theorem noRo_own (js : List Nat) (e : Ent) (h : e.own ≠ none) : noRo js e = e := by cases e <;> first | rfl | exact absurd rfl h
theorem Sta.killJ (js : List Nat) (s : Sta K f τ ρ σ H) : Sta K f τ (TL.killJ js ρ) σ H := let ⟨S, rs, s⟩ := s; ⟨S, _, s.wk (noRo js) (noRo_cases js) (noRo_own js)⟩
theorem noRA_cases (e : Ent) : noRA e = e ∨ noRA e = .no := by cases e <;> first | exact .inl rfl | exact .inr rfl
theorem noRA_own (e : Ent) (h : e.own ≠ none) : noRA e = e := by cases e <;> first | rfl | exact absurd rfl h
end
end TL
set_option Elab.async false
set_option linter.all false
set_option maxRecDepth 100000
namespace TL
open PySem PySem.Spec PyProof.Rows L2

/-- kind m serves where kind k is wanted -/
def fit (k m : Nat) (t : T) : Prop := k ≤ m ∨ t.flat = true
section
variable {K : PySem.W.Frag} {f : Fm} {S S' : Addr → Prop} {H H' : Hp} {τ τ' rs rs' : List Root} {ρ ρ' : List Ent} {σ : St}
theorem Own.fit {k m : Nat} {t : T} {v : V} {F : List Addr} (h : Own K H S m t v F) (hk : fit k m t) : ∃ F' : List Addr, F'.Sublist F ∧ ∀ S' : Addr → Prop, (∀ a, S a → S' a) → (∀ a ∈ F, a ∉ F' → S' a) → F.Nodup → Own K H S' k t v F' := by
  rcases hk with hk | hk
  · exact h.less hk
  · obtain ⟨e, q⟩ := h.flat0 hk
    exact ⟨[], List.nil_sublist _, fun S' _ _ _ => q k S'⟩
theorem put_own {e : Ent} {n : Nat} {U : T} (h : e.own = some (n, U)) (U' : T) : (e.put U').own = some (n, U') := by
  cases e <;> first | (cases h; rfl) | cases h
theorem put_io {e : Ent} {n n' : Nat} {U U' t : T} (h : e.own = some (n, U)) (q : e.put U' = .io n' t) : e = .io n U := by
  cases e <;> first | cases h | skip
  · cases q
  · rfl
theorem slot_put {e : Ent} {n : Nat} {U U' : T} {v : V} {F : List Addr} (h : e.own = some (n, U)) (o : Own K H S n U' v F) : SlotR K H S (e.put U') (some v) F := by
  cases e <;> first | (cases h; exact ⟨v, rfl, o⟩) | cases h
/-- an owned list changed; the value of the last temporary may have gone into it -/
theorem StaW.core {m j : Nat} {t2 : T} {v2 : V} {F2 : List Addr} (s : StaW K f (τ ++ [tmp m t2 v2 F2]) ρ σ H S rs) (hnr : ∀ e ∈ ρ, (∀ t, e ≠ .ro t) ∧ ∀ i t, e ≠ .al j i t)
    {n : Nat} {e : Ent} {U : T} {v0 : V} {p : List Nat} {kd : NK} {ts : List T} {a : Addr} (he : ρ[j]? = some e) (ho : e.own = some (n, U)) (hv : σ[j]? = some (some v0)) (w : Way H U v0 p (.nd kd ts) (.ref a)) (hp : p.length < n) (hf : TL.fit (n - p.length - 1) m t2) :
    ∃ (oa : HO) (vs : List V) (Fs F2' : List Addr) (S' : Addr → Prop), H a = some oa ∧ kd.is oa vs ∧ Owns K H S (n - p.length - 1) ts vs Fs ∧ (∀ b, S b → S' b) ∧ Own K H S' (n - p.length - 1) t2 v2 F2' ∧ a ∉ Fs ∧ a ∉ F2' ∧ ¬ S' a ∧ Fs.Nodup ∧ F2'.Nodup ∧ (∀ b ∈ Fs, b ∉ F2') ∧ (p ≠ [] → v0 ≠ .ref a) ∧
      ∀ (kd' : NK) (o' : HO) (vs' : List V) (ts' : List T) (Fs' : List Addr), kd'.is o' vs' → Owns K (upd H a o') S' (n - p.length - 1) ts' vs' Fs' → Fs'.Nodup → (∀ b ∈ Fs', b ∈ Fs ∨ b ∈ F2') →
        Sta K f τ (ρ.set j (e.put (T.put (.nd kd' ts') p U))) σ (upd H a o') := by
  obtain ⟨r, g1, g2, g3, g4⟩ := s.get he
  obtain ⟨q1, q2, q3⟩ := s.good.slot j r g1
  obtain ⟨v0', e1, own⟩ := q1.own (g2 ▸ ho)
  rw [hv] at g3
  have e0 : v0 = v0' := by
    rw [e1] at g3
    exact Option.some.inj (Option.some.inj g3)
  subst e0
  have jl : j < rs.length := (List.getElem?_eq_some_iff.mp g4).1
  obtain ⟨oa, vs, F1, Fs, F3, eF, hA, hK, r2, nv0, k2⟩ := own.way w rfl rfl hp q2
  have gt : (rs ++ (τ ++ [tmp m t2 v2 F2]))[(rs ++ τ).length]? = some (tmp m t2 v2 F2) := by
    rw [← List.append_assoc]; exact getElem?_last
  obtain ⟨p1, p2, p3⟩ := s.good.slot _ _ gt
  obtain ⟨v2', e2, own2⟩ := p1
  have e0 : v2 = v2' := Option.some.inj e2
  subst e0
  obtain ⟨F2', sub, k3⟩ := own2.fit hf
  have jt : j ≠ (rs ++ τ).length := by rw [List.length_append]; omega
  have d12 : ∀ b ∈ r.F, b ∉ F2 := fun b hb => s.good.dj _ _ _ _ g1 gt jt b hb
  have aF : a ∈ r.F := by rw [eF]; simp
  have nd := q2
  rw [eF] at nd
  obtain ⟨n1, n2, n3⟩ := List.nodup_append.mp nd
  obtain ⟨n4, n5, n6⟩ := List.nodup_append.mp n1
  obtain ⟨n7, n8⟩ := List.nodup_cons.mp n5
  have sF : ∀ b ∈ Fs, b ∈ r.F := fun b hb => by rw [eF]; simp [hb]
  refine ⟨oa, vs, Fs, F2', fun b => S b ∨ (b ∈ F2 ∧ b ∉ F2'), hA, hK, r2, fun _ => .inl, k3 _ (fun _ => .inl) (fun b h1 h2 => .inr ⟨h1, h2⟩) p2, n7, fun z => d12 a aF (sub.subset z), fun z => ?_, n8, p2.sublist sub, fun b hb z => d12 b (sF b hb) (sub.subset z), nv0, ?_⟩
  · rcases z with z | ⟨z, _⟩
    · exact (q3 a aF).1 z
    · exact d12 a aF z
  intro kd' o' vs' ts' Fs' hK' hO hnd hsrc
  have keepL : ∀ b ob, b ≠ a → H b = some ob → upd H a o' b = some ob := fun b xs h1 h2 => by rw [upd_ne h1]; exact h2
  have keepT : ∀ b o, H b = some o → ((∃ xs, o = .tup xs) ∨ ∃ ob u, o = .frz ob u) → upd H a o' b = some o := fun b o h1 h2 => by
    refine (upd_ne (fun z => ?_)).trans h1
    rw [z, hA] at h1
    have e := Option.some.inj h1
    rcases h2 with ⟨xs, h2⟩ | ⟨ob, u, h2⟩
    · exact hK.ntup (e.trans h2)
    · exact hK.nfrz (e.trans h2)
  have nS' : ¬ (S a ∨ (a ∈ F2 ∧ a ∉ F2')) := fun z => by
    rcases z with z | ⟨z, _⟩
    · exact (q3 a aF).1 z
    · exact d12 a aF z
  have keepX : ∀ b φ, H b = some (.ext φ) → upd H a o' b = some (.ext φ) := fun b φ h => by
    rw [upd_ne (fun z => by rw [z, hA] at h; exact hK.nt.2 _ (Option.some.inj h))]
    exact h
  have own' := k2 (upd H a o') (fun b => S b ∨ (b ∈ F2 ∧ b ∉ F2')) kd' o' vs' ts' Fs' (fun _ => .inl) (fun b xs h => keepT b _ h (.inl ⟨_, rfl⟩)) (fun b o u h => keepT b _ h (.inr ⟨_, _, rfl⟩)) keepX (fun b xs h1 _ h3 => keepL b xs h1 h3) (q3 a aF).1 upd_same hK' hO
  have mem' : ∀ b ∈ F1 ++ a :: Fs' ++ F3, b ∈ r.F ∨ b ∈ F2' := fun b hb => by
    rcases List.mem_append.mp hb with hb | hb
    · rcases List.mem_append.mp hb with hb | hb
      · exact .inl (by rw [eF]; simp [hb])
      · rcases List.mem_cons.mp hb with rfl | hb
        · exact .inl aF
        · exact (hsrc b hb).imp_left (sF b)
    · exact .inl (by rw [eF]; simp [hb])
  have gO : ∀ m' r', m' ≠ j → (rs.set j ⟨e.put (T.put (.nd kd' ts') p U), some v0, F1 ++ a :: Fs' ++ F3⟩ ++ τ)[m']? = some r' → (rs ++ (τ ++ [tmp m t2 v2 F2]))[m']? = some r' ∧ m' ≠ (rs ++ τ).length := fun m' r' hm h => by
    have hl := (List.getElem?_eq_some_iff.mp h).1
    rw [List.length_append, List.length_set] at hl
    refine ⟨?_, by rw [List.length_append]; omega⟩
    by_cases hlt : m' < rs.length
    · rw [List.getElem?_append_left (by rw [List.length_set]; omega), List.getElem?_set_ne (Ne.symm hm)] at h
      exact getElem?_app h
    · rw [List.getElem?_append_right (by rw [List.length_set]; omega), List.length_set] at h
      rw [List.getElem?_append_right (by omega)]
      exact getElem?_app h
  refine ⟨fun b => S b ∨ (b ∈ F2 ∧ b ∉ F2'), rs.set j ⟨e.put (T.put (.nd kd' ts') p U), some v0, F1 ++ a :: Fs' ++ F3⟩, ⟨?_, ?_, ?_, ?_, ?_, fun r h => s.tm r (List.mem_append_left _ h)⟩⟩
  · rw [List.map_set, s.e]
  · rw [List.map_set, s.o]
    exact set_self hv
  · have hlen : (rs.set j (⟨e.put (T.put (.nd kd' ts') p U), some v0, F1 ++ a :: Fs' ++ F3⟩ : Root) ++ τ).length = (rs ++ τ).length := by rw [List.length_append, List.length_append, List.length_set]
    have old2 : ∀ m' q, m' ≠ j → m' < (rs ++ τ).length → (rs ++ (τ ++ [tmp m t2 v2 F2]))[m']? = some q → (∀ b ∈ r.F, b ∉ q.F) ∧ ∀ b ∈ F2, b ∉ q.F := fun m' q hm hl h => by
      have hm2 : m' ≠ (rs ++ τ).length := by omega
      exact ⟨fun b hb => s.good.dj _ _ _ _ g1 h (Ne.symm hm) b hb, fun b hb => s.good.dj _ _ _ _ gt h (Ne.symm hm2) b hb⟩
    refine s.good.repl (fun m => m) j (r' := ⟨e.put (T.put (.nd kd' ts') p U), some v0, F1 ++ a :: Fs' ++ F3⟩) ?_ (fun m' r' hm h => .inr (gO m' r' hm h).1) (fun _ _ _ _ _ _ _ _ _ _ z => z) (slot_put ho own') ?_ (fun b hb => ?_) (fun b hb m' q hm hl h => ?_) (fun _ => .inl) (fun m' q hm hl h b hb z => ?_) (fun m' q hm h _ => ?_) (fun b hb => ?_) (fun b o h1 h2 => ?_) (TbOk.upd s.good.tb hK'.nt fun u e => by rw [hA] at e; cases e; exact hK.nt) fun b hb => ?_
    · exact getElem?_app (by rw [List.getElem?_set_self jl])
    · -- nodup
      have dF : ∀ b ∈ Fs', b ∈ r.F → b ∈ Fs := fun b hb hr => by
        rcases hsrc b hb with z | z
        · exact z
        · exact absurd (sub.subset z) (d12 b hr)
      refine List.nodup_append.mpr ⟨List.nodup_append.mpr ⟨n4, List.nodup_cons.mpr ⟨fun z => n7 (dF a z aF), hnd⟩, fun x hx y hy exy => ?_⟩, n2, fun x hx y hy exy => ?_⟩
      · subst exy
        rcases List.mem_cons.mp hy with rfl | hy
        · exact n6 x hx x (by simp) rfl
        · exact n6 x hx x (List.mem_cons_of_mem _ (dF x hy (by rw [eF]; simp [hx]))) rfl
      · subst exy
        rcases List.mem_append.mp hx with hx | hx
        · exact n3 x (by simp [hx]) x hy rfl
        · rcases List.mem_cons.mp hx with rfl | hx
          · exact n3 x (by simp) x hy rfl
          · exact n3 x (by simp [dF x hx (by rw [eF]; simp [hy])]) x hy rfl
    · rcases mem' b hb with z | z
      · refine ⟨fun y => ?_, (q3 b z).2⟩
        rcases y with y | ⟨y, _⟩
        · exact (q3 b z).1 y
        · exact d12 b z y
      · refine ⟨fun y => ?_, (p3 b (sub.subset z)).2⟩
        rcases y with y | ⟨_, y⟩
        · exact (p3 b (sub.subset z)).1 y
        · exact y z
    · have hl := (List.getElem?_eq_some_iff.mp hl).1
      rw [hlen] at hl
      rcases mem' b hb with z | z
      · exact (old2 m' q hm hl h).1 b z
      · exact (old2 m' q hm hl h).2 b (sub.subset z)
    · have hl := (List.getElem?_eq_some_iff.mp hl).1
      rw [hlen] at hl
      rcases z with z | ⟨z, _⟩
      · exact ((s.good.slot _ _ h).2.2 b hb).1 z
      · exact (old2 m' q hm hl h).2 b z hb
    · obtain ⟨h1, h2⟩ := gO m' q hm h
      have hl := (List.getElem?_eq_some_iff.mp h).1
      rw [hlen] at hl
      refine ⟨⟨fun b xs h => keepT b _ h (.inl ⟨_, rfl⟩), fun b o u h => keepT b _ h (.inr ⟨_, _, rfl⟩), fun b xs hb _ hx => keepL b xs (fun z => ?_) hx, keepX⟩, fun t1 t2 => ?_⟩
      · rcases hb with hb | hb
        · exact (q3 a aF).1 (z ▸ hb)
        · exact (old2 m' q hm hl h1).1 a aF (z ▸ hb)
      · exfalso
        by_cases hlt : m' < rs.length
        · rw [List.getElem?_append_left hlt] at h1
          have hm : q.e ∈ ρ := by rw [← s.e]; exact List.mem_map_of_mem (List.mem_of_getElem? h1)
          exact (hnr _ hm).1 t1 t2
        · rw [List.getElem?_append_right (by omega)] at h1
          obtain ⟨n', t', z⟩ := s.tm q (List.mem_of_getElem? h1)
          rw [z] at t2; cases t2
    · by_cases hb' : b = a
      · rw [hb', upd_same]; exact fun z => nomatch z
      · rw [upd_ne hb']
        rcases hb with hb | ⟨hb, _⟩
        · exact s.good.trk b hb
        · obtain ⟨_, z⟩ := own2.there b hb
          rw [z]; exact fun z => nomatch z
    · by_cases hb' : b = a
      · subst hb'
        rcases (q3 b aF).2 with z | z
        · rw [z] at h1; cases h1
        · exact absurd z h2
      · rw [upd_ne hb']; exact s.good.fr b o h1 h2
    · rcases hb with hb | ⟨hb, _⟩
      · exact s.good.src b hb
      · exact .inr (p3 b hb).2
  · intro k j' i t h
    by_cases hk : k = j
    · subst hk
      rw [List.getElem?_set_self (by rw [← s.len]; exact jl)] at h
      have z := put_own ho (T.put (.nd kd' ts') p U)
      rw [Option.some.inj h] at z
      cases z
    · rw [List.getElem?_set_ne (Ne.symm hk)] at h
      have nj : j' ≠ j := fun z => (hnr _ (List.mem_of_getElem? h)).2 i t (by rw [z])
      obtain ⟨r', n', U', w0, w1, Fi, a1, a2, a3, a4, a5, a6, a7⟩ := (s.al k j' i t h).ex
      have g5 : (rs ++ (τ ++ [tmp m t2 v2 F2]))[j']? = some r' := getElem?_app a1
      have na : ∀ b ∈ r'.F, b ≠ a := fun b hb z => s.good.dj _ _ _ _ g1 g5 (Ne.symm nj) a aF (z ▸ hb)
      refine ⟨⟨r', n', U', w0, w1, Fi, by rw [List.getElem?_set_ne (Ne.symm nj)]; exact a1, a2, a3, a4, ?_, ?_, a7⟩⟩
      · obtain ⟨w0', e3, own3⟩ := (s.good.slot _ _ g5).1.own a2
        rw [a3] at e3
        have e3 := Option.some.inj e3
        subst e3
        generalize r'.F = G at own3 na
        cases a5 with
        | nd b1 b0 b2 b3 b4 =>
          cases own3 with
          | nd _ _ _ => exact .nd (by rw [upd_ne (na _ List.mem_cons_self)]; exact b1) b0 b2 b3 (by cases b4; exact .nil)
        | tup b1 b2 b3 b4 => exact .tup (keepT _ _ b1 (.inl ⟨_, rfl⟩)) b2 b3 (by cases b4; exact .nil)
      · exact a6.keep (fun _ => .inl) ⟨fun b xs h => keepT b _ h (.inl ⟨_, rfl⟩), fun b o u h => keepT b _ h (.inr ⟨_, _, rfl⟩), fun b xs hb _ hx => keepL b xs (fun z => by
          rcases hb with hb | hb
          · exact (q3 a aF).1 (z ▸ hb)
          · exact na b (a7 b hb) z) hx, keepX⟩
  · intro i n' t h
    by_cases hk : i = j
    · subst hk
      rw [List.getElem?_set_self (by rw [← s.len]; exact jl)] at h
      have z := put_io ho (Option.some.inj h)
      rw [z] at he
      exact s.io i _ _ he
    · rw [List.getElem?_set_ne (Ne.symm hk)] at h
      exact s.io i n' t h
theorem killJ_nr (j : Nat) (ρ : List Ent) : ∀ e ∈ killJ [j] ρ, (∀ t, e ≠ .ro t) ∧ ∀ i t, e ≠ .al j i t := by
  intro e h
  unfold killJ at h
  obtain ⟨e0, _, rfl⟩ := List.mem_map.mp h
  cases e0 with
  | al j' i t =>
    by_cases hj : j' = j
    · subst hj; simp [noRo]
    · simp [noRo, hj]
  | _ => simp [noRo]
theorem killJ_get {js : List Nat} {ρ : List Ent} {j : Nat} {e : Ent} {n : Nat} {U : T} (h : ρ[j]? = some e) (ho : e.own = some (n, U)) : (killJ js ρ)[j]? = some e := by
  unfold killJ
  rw [List.getElem?_map, h]
  show some (noRo js e) = some e
  rw [noRo_own js e (by rw [ho]; exact fun z => nomatch z)]
theorem Owns.get {n i : Nat} : ∀ {ts : List T} {vs : List V} {F : List Addr} {t : T}, Owns K H S n ts vs F → ts[i]? = some t → ∃ v, vs[i]? = some v := fun {ts vs F t} h e => by
  have hl := (List.getElem?_eq_some_iff.mp e).1
  rw [Owns.length h] at hl
  exact ⟨vs[i], List.getElem?_eq_getElem hl⟩
theorem Owns.snoc {n : Nat} {t : T} {v : V} {G : List Addr} : ∀ {ts : List T} {vs : List V} {F : List Addr}, Owns K H S n ts vs F → Own K H S n t v G → Owns K H S n (ts ++ [t]) (vs ++ [v]) (F ++ G)
  | [], _, _, h, o => by
    cases h
    have z := Owns.cons o Owns.nil
    simpa using z
  | u :: ts, _, _, h, o => by
    cases h with
    | @cons n t0 ts v0 vs F1 F2 a r =>
      have z := Owns.cons a (Owns.snoc r o)
      simpa using z
/-- the value of the last temporary stored as child i of an owned node, or as a further child; what the node is then may be another kind -/
theorem Sta.mut {m : Nat} {t2 : T} {v2 : V} {F2 : List Addr} (s : Sta K f (τ ++ [tmp m t2 v2 F2]) ρ σ H)
    {j n : Nat} {e : Ent} {U : T} {v0 : V} {p : List Nat} {kd : NK} {ts : List T} {a : Addr} (he : ρ[j]? = some e) (ho : e.own = some (n, U)) (hv : σ[j]? = some (some v0)) (w : Way H U v0 p (.nd kd ts) (.ref a)) (hp : p.length < n) (hf : TL.fit (n - p.length - 1) m t2) :
    ∃ (oa : HO) (vs : List V), H a = some oa ∧ kd.is oa vs ∧ vs.length = ts.length ∧ (p ≠ [] → v0 ≠ .ref a) ∧
      (∀ i kd' o', i < ts.length → kd'.is o' (vs.set i v2) → Sta K f τ ((TL.killJ [j] ρ).set j (e.put (T.put (.nd kd' (ts.set i t2)) p U))) σ (upd H a o')) ∧
      ∀ kd' o', kd'.is o' (vs ++ [v2]) → Sta K f τ ((TL.killJ [j] ρ).set j (e.put (T.put (.nd kd' (ts ++ [t2])) p U))) σ (upd H a o') := by
  obtain ⟨S, rs, s⟩ := s.killJ [j]
  obtain ⟨oa, vs, Fs, F2', S', hA, hK, r2, hS, o2, na1, na2, nSa, nd1, nd2, dj, nv0, k⟩ := s.core (killJ_nr j ρ) (killJ_get he ho) ho hv w hp hf
  have kp : ∀ (o' : HO) (G : List Addr), a ∉ G → Kp H (upd H a o') S G := fun o' G hG =>
    ⟨fun b xs h => by rw [upd_ne (fun z => by rw [z, hA] at h; exact hK.ntup (Option.some.inj h))]; exact h, fun b o u h => by rw [upd_ne (fun z => by rw [z, hA] at h; exact hK.nfrz (Option.some.inj h))]; exact h, fun b xs hb _ h => by
      rw [upd_ne (fun z => by
        subst z
        rcases hb with hb | hb
        · exact nSa (hS _ hb)
        · exact hG hb)]
      exact h, fun b φ h => by
      rw [upd_ne (fun z => by rw [z, hA] at h; exact hK.nt.2 _ (Option.some.inj h))]
      exact h⟩
  have kp' : ∀ (o' : HO) (G : List Addr), a ∉ G → Kp H (upd H a o') S' G := fun o' G hG =>
    ⟨fun b xs h => by rw [upd_ne (fun z => by rw [z, hA] at h; exact hK.ntup (Option.some.inj h))]; exact h, fun b o u h => by rw [upd_ne (fun z => by rw [z, hA] at h; exact hK.nfrz (Option.some.inj h))]; exact h, fun b xs hb _ h => by
      rw [upd_ne (fun z => by
        subst z
        rcases hb with hb | hb
        · exact nSa hb
        · exact hG hb)]
      exact h, fun b φ h => by
      rw [upd_ne (fun z => by rw [z, hA] at h; exact hK.nt.2 _ (Option.some.inj h))]
      exact h⟩
  refine ⟨oa, vs, hA, hK, r2.length.symm, nv0, fun i kd' o' hi hk' => ?_, fun kd' o' hk' => ?_⟩
  · obtain ⟨v, ev⟩ := r2.get (List.getElem?_eq_getElem hi)
    obtain ⟨G1, Gi, G2, rfl, oi, ki⟩ := r2.split (List.getElem?_eq_getElem hi) ev
    have z := ki (upd H a o') S' t2 v2 F2' hS (kp _ _ (by simp at na1; simp [na1])) (kp _ _ (by simp at na1; simp [na1])) (o2.keep (fun _ z => z) (kp' _ _ na2))
    obtain ⟨n1, n2, n3⟩ := List.nodup_append.mp nd1
    obtain ⟨n4, n5, n6⟩ := List.nodup_append.mp n1
    refine k kd' o' _ _ _ hk' z ?_ fun b hb => ?_
    · refine List.nodup_append.mpr ⟨List.nodup_append.mpr ⟨n4, nd2, fun x hx y hy e => ?_⟩, n2, fun x hx y hy e => ?_⟩
      · subst e; exact dj x (by simp [hx]) hy
      · subst e
        rcases List.mem_append.mp hx with hx | hx
        · exact n3 x (by simp [hx]) x hy rfl
        · exact dj x (by simp [hy]) hx
    · simp at hb ⊢
      rcases hb with hb | hb | hb <;> simp [hb]
  · have z := Owns.snoc (r2.keep hS (kp o' _ na1)) (o2.keep (fun _ z => z) (kp' o' _ na2))
    refine k kd' o' _ _ _ hk' z (List.nodup_append.mpr ⟨nd1, nd2, fun x hx y hy e => ?_⟩) fun b hb => List.mem_append.mp hb
    subst e
    exact dj x hx hy
/-- .. of an owned list -/
theorem Sta.mutL {m : Nat} {t2 : T} {v2 : V} {F2 : List Addr} (s : Sta K f (τ ++ [tmp m t2 v2 F2]) ρ σ H)
    {j n : Nat} {e : Ent} {U : T} {v0 : V} {p : List Nat} {ts : List T} {a : Addr} (he : ρ[j]? = some e) (ho : e.own = some (n, U)) (hv : σ[j]? = some (some v0)) (w : Way H U v0 p (.lst ts) (.ref a)) (hp : p.length < n) (hf : TL.fit (n - p.length - 1) m t2) :
    ∃ vs : List V, H a = some (.lst vs) ∧ vs.length = ts.length ∧ (p ≠ [] → v0 ≠ .ref a) ∧
      (∀ i, i < ts.length → Sta K f τ ((TL.killJ [j] ρ).set j (e.put (T.put (.lst (ts.set i t2)) p U))) σ (upd H a (.lst (vs.set i v2)))) ∧
      Sta K f τ ((TL.killJ [j] ρ).set j (e.put (T.put (.lst (ts ++ [t2])) p U))) σ (upd H a (.lst (vs ++ [v2]))) := by
  obtain ⟨oa, vs, h1, h2, h3, h4, h5, h6⟩ := s.mut he ho hv w hp hf
  have h2 : oa = .lst vs := h2
  subst h2
  exact ⟨vs, h1, h3, h4, fun i hi => h5 i .lst _ hi rfl, h6 .lst _ rfl⟩
end
end TL
set_option Elab.async false
set_option linter.all false
set_option maxRecDepth 100000
namespace TL
open PySem PySem.Spec PyProof.Rows L2
section
variable {K : PySem.W.Frag} {f : Fm} {S S' : Addr → Prop} {H H' : Hp} {τ τ' ms rs rs' : List Root} {ρ ρ' : List Ent} {σ : St}
/-! ### slot i anew, without a footprint -/
theorem StaW.setE0 (s : StaW K f τ ρ σ H S rs) {i : Nat} {e' : Ent} {v : V} (hi : i < ρ.length) (hs : SlotR K H S e' (some v) []) (hio : ∀ n t, e' ≠ .io n t)
    (hal : ∀ j k t, e' = .al j k t → j ≠ i ∧ ∃ (r : Root) (n : Nat) (U : T) (v0 : V) (Fi : List Addr), rs[j]? = some r ∧ r.e.own = some (n + 1, U) ∧ r.o = some v0 ∧ Way H U v0 [k] t v ∧ Own K H S n t v Fi ∧ ∀ b ∈ Fi, b ∈ r.F) :
    StaW K f τ (setE ρ i e') (σ.set i (some v)) H S ((rs.map (Root.noAl i)).set i ⟨e', some v, []⟩) where
  e := by
    rw [List.map_set, List.map_map]
    unfold setE killA
    rw [← s.e, List.map_map]
    rfl
  o := by
    rw [List.map_set, List.map_map]
    show (List.map (fun r => r.o) rs).set i (some v) = σ.set i (some v)
    rw [s.o]
  good := by
    have hl := s.len
    have len : ((rs.map (Root.noAl i)).set i (⟨e', some v, []⟩ : Root)).length = rs.length := by rw [List.length_set, List.length_map]
    have hold : ∀ m r, m ≠ i → ((rs.map (Root.noAl i)).set i (⟨e', some v, []⟩ : Root) ++ τ)[m]? = some r → (r.e = .no ∧ r.F = []) ∨ (rs ++ τ)[m]? = some r := fun m r hm e => by
      by_cases hlt : m < rs.length
      · rw [List.getElem?_append_left (by omega), List.getElem?_set_ne (Ne.symm hm), List.getElem?_map] at e
        cases q : rs[m]? with
        | none => rw [q] at e; cases e
        | some r0 =>
          rw [q] at e
          have e := (Option.some.inj e).symm
          rcases noAl_cases i r0.e with h | ⟨k, u, h, h2⟩
          · right
            rw [e]
            unfold Root.noAl
            rw [h]
            exact getElem?_app q
          · left
            rw [e]
            exact ⟨h2, show r0.F = [] from s.alF (getElem?_app q) h⟩
      · rw [List.getElem?_append_right (by omega), len] at e
        right
        rw [List.getElem?_append_right (by omega)]
        exact e
    have k0 : ∀ F, Kp H H S F := fun F => kp_refl
    exact s.good.repl (fun m => m) i (r' := ⟨e', some v, []⟩) (getElem?_app (by rw [List.getElem?_set_self (by rw [List.length_map]; omega)])) hold (fun _ _ _ _ _ _ _ _ _ _ z => z) hs List.nodup_nil (fun a z => nomatch z) (fun a z => nomatch z) (fun _ z => z)
      (fun m q hm _ h a ha => ((s.good.slot m q h).2.2 a ha).1) (fun m q _ _ _ => ⟨k0 _, fun _ _ => kp_refl⟩) s.good.trk s.good.fr s.good.tb s.good.src
  al := fun k j l u h => by
    by_cases hk : k = i
    · subst hk
      have e0 := setE_same h
      obtain ⟨nj, r, n, U, v0, Fi, a1, a2, a3, a4, a5, a6⟩ := hal j l u e0.symm
      refine ⟨⟨r.noAl k, n, U, v0, v, Fi, ?_, ?_, a3, ?_, a4, a5, a6⟩⟩
      · rw [List.getElem?_set_ne (Ne.symm nj), List.getElem?_map, a1]; rfl
      · exact (noAl_own k r.e).trans a2
      · rw [List.getElem?_set_self (by rw [← s.lenσ, s.len]; exact hi)]
    · obtain ⟨y, hy, e⟩ := setE_get h hk
      obtain ⟨e2, nj⟩ := noAl_al e.symm
      subst e2
      obtain ⟨r, n', U, v0, v1, Fi, a1, a2, a3, a4, a5, a6, a7⟩ := (s.al k j l u hy).ex
      refine ⟨⟨r.noAl i, n', U, v0, v1, Fi, ?_, ?_, a3, ?_, a5, a6, a7⟩⟩
      · rw [List.getElem?_set_ne (Ne.symm nj), List.getElem?_map, a1]; rfl
      · exact (noAl_own i r.e).trans a2
      · rw [List.getElem?_set_ne (Ne.symm hk)]; exact a4
  io := fun k n' u h => by
    by_cases hk : k = i
    · subst hk
      exact absurd (setE_same h).symm (hio n' u)
    · obtain ⟨y, hy, e⟩ := setE_get h hk
      have e2 := noAl_io e.symm
      subst e2
      rw [List.getElem?_set_ne (Ne.symm hk)]
      exact s.io k n' u hy
  tm := s.tm
/-- a slot's value taken as a temporary -/
theorem StaW.copyV (s : StaW K f τ ρ σ H S rs) {i : Nat} {t : T} (he : ρ[i]? = some (.ow 0 t)) : ∃ v, σ[i]? = some (some v) ∧ StaW K f (τ ++ [tmp 0 t v []]) ρ σ H S rs := by
  obtain ⟨r, g1, g2, g3, g4⟩ := s.get he
  have z := (s.good.slot i r g1).1
  rw [g2] at z
  obtain ⟨v, e, q⟩ := z
  have e2 := q.zero
  rw [e2] at q
  exact ⟨v, by rw [g3, e], s.pushS q⟩
theorem StaW.moveV (s : StaW K f τ ρ σ H S rs) {i n : Nat} {t : T} (he : ρ[i]? = some (.ow n t)) : ∃ v F rs', σ[i]? = some (some v) ∧ StaW K f (τ ++ [tmp n t v F]) (setE ρ i .no) σ H S rs' := by
  obtain ⟨r, g1, g2, g3, g4⟩ := s.get he
  have z := s.good.slot i r g1
  obtain ⟨v, ev, own⟩ := z.1.own (n := n) (t := t) (by rw [g2]; rfl)
  have il : i < rs.length := (List.getElem?_eq_some_iff.mp g4).1
  have hl := s.len
  have s0 := s.setE0 (i := i) (e' := .no) (v := v) (by omega) (by rfl) (fun _ _ z => nomatch z) (fun _ _ _ z => nomatch z)
  have eσ : σ.set i (some v) = σ := set_self (by rw [g3, ev])
  rw [eσ] at s0
  refine ⟨v, r.F, _, by rw [g3, ev], ⟨s0.e, s0.o, ?_, s0.al, s0.io, tm_app s.tm ⟨_, _, rfl⟩⟩⟩
  have er : r = tmp n t v r.F := by
    obtain ⟨re, ro, rF⟩ := r
    simp at g2 ev
    subst g2; subst ev
    rfl
  rw [← List.append_assoc]
  have len : (((rs.map (Root.noAl i)).set i (⟨.no, some v, []⟩ : Root)) ++ τ).length = (rs ++ τ).length := by rw [List.length_append, List.length_append, List.length_set, List.length_map]
  refine s.good.pick (fun m => if m = (rs ++ τ).length then i else m) (fun m q e => ?_) fun a b ra rb ha hb na nb z => ?_
  · rcases app_old e with ⟨e1, rfl⟩ | ⟨e1, e2⟩
    · right
      rw [len] at e1
      rw [if_pos e1, g1, ← er]
    · rw [len] at e1
      rw [if_neg (by omega)]
      by_cases hm : m = i
      · subst hm
        rw [List.getElem?_append_left (by rw [List.length_set, List.length_map]; omega), List.getElem?_set_self (by rw [List.length_map]; omega)] at e2
        rw [← Option.some.inj e2]
        exact .inl ⟨rfl, rfl⟩
      · by_cases hlt : m < rs.length
        · rw [List.getElem?_append_left (by rw [List.length_set, List.length_map]; omega), List.getElem?_set_ne (Ne.symm hm), List.getElem?_map] at e2
          cases q0 : rs[m]? with
          | none => rw [q0] at e2; cases e2
          | some r0 =>
            rw [q0] at e2
            have e2 := (Option.some.inj e2).symm
            rcases noAl_cases i r0.e with h | ⟨k, u, h, h2⟩
            · right
              rw [e2]
              unfold Root.noAl
              rw [h]
              exact getElem?_app q0
            · left
              rw [e2]
              exact ⟨h2, show r0.F = [] from s.alF (getElem?_app q0) h⟩
        · rw [List.getElem?_append_right (by rw [List.length_set, List.length_map]; omega), List.length_set, List.length_map] at e2
          right
          rw [List.getElem?_append_right (by omega)]
          exact e2
  · have noi : ∀ {m : Nat} {q : Root}, (((rs.map (Root.noAl i)).set i (⟨.no, some v, []⟩ : Root)) ++ τ ++ [tmp n t v r.F])[m]? = some q → q.F ≠ [] → m ≠ i := fun {m q} h hn hm => by
      subst hm
      rw [List.append_assoc, List.getElem?_append_left (by rw [List.length_set, List.length_map]; omega), List.getElem?_set_self (by rw [List.length_map]; omega)] at h
      rw [← Option.some.inj h] at hn
      exact hn rfl
    have h1 := noi ha na
    have h2 := noi hb nb
    have la := (List.getElem?_eq_some_iff.mp ha).1
    have lb := (List.getElem?_eq_some_iff.mp hb).1
    rw [List.length_append, len, List.length_singleton] at la lb
    by_cases c1 : a = (rs ++ τ).length
    · by_cases c2 : b = (rs ++ τ).length
      · omega
      · rw [if_pos c1, if_neg c2] at z; omega
    · by_cases c2 : b = (rs ++ τ).length
      · rw [if_neg c1, if_pos c2] at z; omega
      · rw [if_neg c1, if_neg c2] at z; exact z
/-- the last temporary's kind lowered -/
theorem StaW.fitV {k m : Nat} {t : T} {v : V} {F : List Addr} (s : StaW K f (τ ++ [tmp m t v F]) ρ σ H S rs) (hf : TL.fit k m t) : ∃ F' S', (∀ a, S a → S' a) ∧ StaW K f (τ ++ [tmp k t v F']) ρ σ H S' rs := by
  have gt : (rs ++ (τ ++ [tmp m t v F]))[(rs ++ τ).length]? = some (tmp m t v F) := by
    rw [← List.append_assoc]; exact getElem?_last
  obtain ⟨p1, p2, p3⟩ := s.good.slot _ _ gt
  obtain ⟨v2', e2, own⟩ := p1
  have e0 : v = v2' := Option.some.inj e2
  subst e0
  obtain ⟨F', sub, k3⟩ := own.fit hf
  refine ⟨F', fun b => S b ∨ (b ∈ F ∧ b ∉ F'), fun _ => .inl, ⟨s.e, s.o, ?_, fun k' j i u h => (s.al k' j i u h).mono fun _ => .inl, s.io, tm_app (fun r h => s.tm r (List.mem_append_left _ h)) ⟨_, _, rfl⟩⟩⟩
  rw [← List.append_assoc]
  have kr : ∀ G, Kp H H S G := fun _ => kp_refl
  refine s.good.repl (fun m => m) (rs ++ τ).length (r' := tmp k t v F') getElem?_last (fun m' q hm h => ?_) (fun _ _ _ _ _ _ _ _ _ _ z => z) ⟨v, rfl, k3 _ (fun _ => .inl) (fun b h1 h2 => .inr ⟨h1, h2⟩) p2⟩ (p2.sublist sub) (fun b hb => ⟨fun z => ?_, (p3 b (sub.subset hb)).2⟩)
    (fun b hb m' q hm _ h => s.good.dj _ _ _ _ gt h (Ne.symm hm) b (sub.subset hb)) (fun _ => .inl) (fun m' q hm _ h b hb z => ?_) (fun m' q hm _ _ => ⟨kr _, fun _ _ => kp_refl⟩) (fun b hb => ?_) s.good.fr s.good.tb fun b hb => ?_
  · right
    rcases app_old h with ⟨e1, _⟩ | ⟨_, e1⟩
    · exact absurd e1 hm
    · rw [← List.append_assoc]; exact getElem?_app e1
  · rcases z with z | ⟨_, z⟩
    · exact (p3 b (sub.subset hb)).1 z
    · exact z hb
  · rcases z with z | ⟨z, _⟩
    · exact ((s.good.slot _ _ h).2.2 b hb).1 z
    · exact s.good.dj _ _ _ _ gt h (Ne.symm hm) b z hb
  · rcases hb with hb | ⟨hb, _⟩
    · exact s.good.trk b hb
    · obtain ⟨xs, z⟩ := own.there b hb
      rw [z]; exact fun z => nomatch z
  · rcases hb with hb | ⟨hb, _⟩
    · exact s.good.src b hb
    · exact .inr (p3 b hb).2

/-! ### several temporaries -/
inductive Tms : List Nat → List T → List V → List Root → Prop
  | nil : Tms [] [] [] []
  | cons {k : Nat} {ks : List Nat} {t : T} {ts : List T} {v : V} {vs : List V} {F : List Addr} {ms : List Root} : Tms ks ts vs ms → Tms (k :: ks) (t :: ts) (v :: vs) (tmp k t v F :: ms)
def foot (ms : List Root) : List Addr := ms.flatMap (·.F)
theorem mem_foot {a : Addr} (h : a ∈ foot ms) : ∃ (i : Nat) (r : Root), ms[i]? = some r ∧ a ∈ r.F := by
  unfold foot at h
  obtain ⟨r, h1, h2⟩ := List.mem_flatMap.mp h
  obtain ⟨i, h3⟩ := List.mem_iff_getElem?.mp h1
  exact ⟨i, r, h3, h2⟩
theorem Good.footnd : ∀ {ms pre : List Root}, Good K f S (pre ++ ms) H → (foot ms).Nodup
  | [], _, _ => List.nodup_nil
  | r :: ms, pre, G => by
    show (r.F ++ foot ms).Nodup
    have h0 : (pre ++ r :: ms)[pre.length]? = some r := by rw [List.getElem?_append_right (Nat.le_refl _), Nat.sub_self]; rfl
    have G' : Good K f S ((pre ++ [r]) ++ ms) H := by
      have e : pre ++ [r] ++ ms = pre ++ r :: ms := by simp
      rw [e]; exact G
    refine List.nodup_append.mpr ⟨(G.slot _ _ h0).2.1, Good.footnd G', fun x hx y hy e => ?_⟩
    subst e
    obtain ⟨i, q, h1, h2⟩ := mem_foot hy
    have h3 : (pre ++ r :: ms)[pre.length + (i + 1)]? = some q := by
      rw [List.getElem?_append_right (by omega)]
      have e : pre.length + (i + 1) - pre.length = i + 1 := by omega
      rw [e]
      simpa using h1
    exact G.dj _ _ _ _ h0 h3 (by omega) x hx h2
theorem Tms.owns {k : Nat} : ∀ {ks : List Nat} {ts : List T} {vs : List V} {ms : List Root}, Tms ks ts vs ms → (∀ m ∈ ks, m = k) → (∀ r ∈ ms, SlotR K H S r.e r.o r.F) → Owns K H S k ts vs (foot ms)
  | _, _, _, _, .nil, _, _ => .nil
  | _, _, _, _, @Tms.cons k0 ks t ts v vs F ms h, hk, hs => by
    have e : k0 = k := hk k0 List.mem_cons_self
    subst e
    obtain ⟨v', e, q⟩ := hs _ List.mem_cons_self
    have e : v = v' := Option.some.inj e
    subst e
    exact Owns.cons q (Tms.owns h (fun m hm => hk m (List.mem_cons_of_mem _ hm)) fun r hr => hs r (List.mem_cons_of_mem _ hr))
theorem Tms.tmps : ∀ {ks : List Nat} {ts : List T} {vs : List V} {ms : List Root}, Tms ks ts vs ms → ∀ r ∈ ms, ∃ n t, r.e = .ow n t
  | _, _, _, _, .nil, _, h => nomatch h
  | _, _, _, _, .cons h, r, hr => by
    rcases List.mem_cons.mp hr with rfl | hr
    · exact ⟨_, _, rfl⟩
    · exact Tms.tmps h r hr
/-- temporaries become the items of a new list or tuple -/
theorem StaW.join {k : Nat} {ks : List Nat} {ts : List T} {vs : List V} (s : StaW K f (τ ++ ms) ρ σ H S rs) (h : Tms ks ts vs ms) (hk : ∀ m ∈ ks, m = k) {p : Addr} (hp : H p = none) {o : HO} {t : T} {n : Nat} {Fp : List Addr}
    (hFp : Fp = [] ∨ (Fp = [p] ∧ ∃ (k' : NK) (xs : List V), k'.is o xs)) (hO : ∀ H' : Hp, H' p = some o → Owns K H' S k ts vs (foot ms) → Own K H' S n t (.ref p) (Fp ++ foot ms)) (ho : NTbl o := by first | exact nt_lst | exact nt_tup) : StaW K f (τ ++ [tmp n t (.ref p) (Fp ++ foot ms)]) ρ σ (upd H p o) S rs := by
  have hs : Same H (upd H p o) := Same.new hp ho
  have s' := s.same hs
  refine ⟨s.e, s.o, ?_, s'.al, s.io, tm_app (fun r hr => s.tm r (List.mem_append_left _ hr)) ⟨_, _, rfl⟩⟩
  have G := s'.good
  rw [← List.append_assoc] at G
  rw [← List.append_assoc]
  have hin : ∀ r ∈ ms, r ∈ rs ++ τ ++ ms := fun r hr => List.mem_append_right _ hr
  have hms : ∀ r ∈ ms, SlotR K (upd H p o) S r.e r.o r.F := fun r hr => by
    obtain ⟨i, hi⟩ := List.mem_iff_getElem?.mp (hin r hr)
    exact (G.slot i r hi).1
  have own := hO _ upd_same (h.owns hk hms)
  have idx : ∀ a ∈ foot ms, ∃ (i : Nat) (r : Root), (rs ++ τ ++ ms)[(rs ++ τ).length + i]? = some r ∧ a ∈ r.F := fun a ha => by
    obtain ⟨i, r, h1, h2⟩ := mem_foot ha
    refine ⟨i, r, ?_, h2⟩
    rw [List.getElem?_append_right (by omega)]
    have e : (rs ++ τ).length + i - (rs ++ τ).length = i := by omega
    rw [e]; exact h1
  have notp : ∀ {i : Nat} {r : Root}, (rs ++ τ ++ ms)[i]? = some r → p ∉ r.F := fun {i r} hi hm => by
    have G0 := s.good
    rw [← List.append_assoc] at G0
    obtain ⟨xs, z⟩ := G0.own_there hi hm
    rw [hp] at z; cases z
  have inFp : ∀ a ∈ Fp, a = p := fun a ha => by
    rcases hFp with z | ⟨z, _⟩
    · rw [z] at ha; cases ha
    · rw [z] at ha; simpa using ha
  have ndFp : Fp.Nodup := by
    rcases hFp with z | ⟨z, _⟩ <;> (rw [z]; simp)
  have kr : ∀ F', Kp (upd H p o) (upd H p o) S F' := fun _ => kp_refl
  have kr2 : Kp (upd H p o) (upd H p o) (fun _ => True) [] := kp_refl
  refine G.repl (fun m => m) (rs ++ τ).length (r' := tmp n t (.ref p) (Fp ++ foot ms)) getElem?_last (fun m' q hm h => ?_) (fun _ _ _ _ _ _ _ _ _ _ z => z) ⟨_, rfl, own⟩ ?_ (fun b hb => ?_) (fun b hb m' q hm h1 h2 => ?_) (fun _ z => z)
    (fun m' q hm _ h b hb => ((G.slot _ _ h).2.2 b hb).1) (fun m' q hm _ _ => ⟨kr _, fun _ _ => kr2⟩) G.trk G.fr G.tb G.src
  · right
    rcases app_old h with ⟨e1, _⟩ | ⟨_, e1⟩
    · exact absurd e1 hm
    · exact getElem?_app e1
  · refine List.nodup_append.mpr ⟨ndFp, G.footnd, fun x hx y hy e => ?_⟩
    subst e
    obtain ⟨i, r, h1, h2⟩ := idx x hy
    exact notp h1 (inFp x hx ▸ h2)
  · rcases List.mem_append.mp hb with hb | hb
    · have e := inFp b hb
      subst e
      exact ⟨fun z => s.good.trk b z hp, s.good.none_src hp⟩
    · obtain ⟨i, r, h1, h2⟩ := idx b hb
      exact (G.slot _ _ h1).2.2 b h2
  · have hl : m' < (rs ++ τ).length := by
      rcases app_old h1 with ⟨e1, _⟩ | ⟨e1, _⟩
      · exact absurd e1 hm
      · exact e1
    rcases List.mem_append.mp hb with hb | hb
    · have e := inFp b hb
      subst e
      exact notp h2
    · obtain ⟨i, r, h3, h4⟩ := idx b hb
      exact G.dj _ _ _ _ h3 h2 (by omega) b h4
end
end TL
set_option Elab.async false
set_option linter.all false
set_option maxRecDepth 100000
namespace TL
open PySem PySem.Spec PyProof.Rows L2

/-! ### the judgements -/
/-- an expression that changes nothing: what it is worth as a tree -/
structure TPE (X : Cx) (e : Expr) (w : List Ent → (T → Prop) → Prop) : Prop where
  ok : ∃ tt : TE, PE X e tt ∧ ∀ (S : Addr → Prop) (ρ : List Ent) (σ : St) (H : Hp) (Q : VK) (R : T → Prop), RdS X.K S ρ σ H → w ρ R → (∀ t v H', R t → Same H H' → Shr X.K H' (fresh S H) t v → Q v H') → tt σ H Q
structure TPT (X : Cx) (e : Expr) (w : List Ent → (Bool → Prop) → Prop) : Prop where
  ok : ∃ tt : TT, PT X e tt ∧ ∀ (S : Addr → Prop) (ρ : List Ent) (σ : St) (H : Hp) (Q : Bool → Hp → Prop) (R : Bool → Prop), RdS X.K S ρ σ H → w ρ R → (∀ b H', R b → Same H H' → Q b H') → tt σ H Q
structure TPW (X : Cx) (e : Expr) (w : List Ent → (Bool → Prop) → Prop) : Prop where
  ok : ∃ tt : TT, PW X e tt ∧ ∀ (S : Addr → Prop) (ρ : List Ent) (σ : St) (H : Hp) (Q : Bool → Hp → Prop) (R : Bool → Prop), RdS X.K S ρ σ H → w ρ R → (∀ b H', R b → Same H H' → Q b H') → tt σ H Q
structure TPA (X : Cx) (es : List Expr) (w : List Ent → (List T → Prop) → Prop) : Prop where
  ok : ∃ tt : TA, PA X es tt ∧ ∀ (S : Addr → Prop) (ρ : List Ent) (σ : St) (H : Hp) (Q : List V → Hp → Prop) (R : List T → Prop), RdS X.K S ρ σ H → w ρ R → (∀ ts vs H', R ts → Same H H' → Shrs X.K H' (fresh S H) ts vs → Q vs H') → tt σ H Q
/-- an expression that may change what is owned: its value is held as a temporary -/
structure TVE (X : Cx) (e : Expr) (w : List Ent → (Nat → T → List Ent → Prop) → Prop) : Prop where
  ok : ∃ tt : TE, PE X e tt ∧ ∀ (f : Fm) (τ : List Root) (ρ : List Ent) (σ : St) (H : Hp) (Q : VK) (R : Nat → T → List Ent → Prop), Sta X.K f τ ρ σ H → w ρ R → (∀ n t ρ' v F H', R n t ρ' → Sta X.K f (τ ++ [tmp n t v F]) ρ' σ H' → Q v H') → tt σ H Q
structure TVT (X : Cx) (e : Expr) (w : List Ent → (Bool → List Ent → Prop) → Prop) : Prop where
  ok : ∃ tt : TT, PT X e tt ∧ ∀ (f : Fm) (τ : List Root) (ρ : List Ent) (σ : St) (H : Hp) (Q : Bool → Hp → Prop) (R : Bool → List Ent → Prop), Sta X.K f τ ρ σ H → w ρ R → (∀ b ρ' H', R b ρ' → Sta X.K f τ ρ' σ H' → Q b H') → tt σ H Q
structure TVW (X : Cx) (e : Expr) (w : List Ent → (Bool → List Ent → Prop) → Prop) : Prop where
  ok : ∃ tt : TT, PW X e tt ∧ ∀ (f : Fm) (τ : List Root) (ρ : List Ent) (σ : St) (H : Hp) (Q : Bool → Hp → Prop) (R : Bool → List Ent → Prop), Sta X.K f τ ρ σ H → w ρ R → (∀ b ρ' H', R b ρ' → Sta X.K f τ ρ' σ H' → Q b H') → tt σ H Q
/-- several, each of its kind -/
structure TVA (X : Cx) (ks : List Nat) (es : List Expr) (w : List Ent → (List T → List Ent → Prop) → Prop) : Prop where
  ok : ∃ tt : TA, PA X es tt ∧ ∀ (f : Fm) (τ : List Root) (ρ : List Ent) (σ : St) (H : Hp) (Q : List V → Hp → Prop) (R : List T → List Ent → Prop), Sta X.K f τ ρ σ H → w ρ R → (∀ ts ρ' vs ms H', R ts ρ' → Tms ks ts vs ms → Sta X.K f (τ ++ ms) ρ' σ H' → Q vs H') → tt σ H Q

/-! ### values by operators -/
abbrev F1 := T → (T → Prop) → Prop
abbrev F2 := T → T → (T → Prop) → Prop
def OpT (K : PySem.W.Frag) (r : R2) (g : F2) : Prop := ∀ (S : Addr → Prop) (H : Hp) (x y : V) (t u : T) (Q : VK) (R : T → Prop), Shr K H S t x → Shr K H S u y → g t u R → (∀ z v H', R z → Same H H' → Shr K H' (fresh S H) z v → Q v H') → r x y H Q
def UnT (K : PySem.W.Frag) (r : V → Hp → VK → Prop) (g : F1) : Prop := ∀ (S : Addr → Prop) (H : Hp) (x : V) (t : T) (Q : VK) (R : T → Prop), Shr K H S t x → g t R → (∀ z v H', R z → Same H H' → Shr K H' (fresh S H) z v → Q v H') → r x H Q
def CaT (K : PySem.W.Frag) (r : List V → Hp → VK → Prop) (g : List T → (T → Prop) → Prop) : Prop := ∀ (S : Addr → Prop) (H : Hp) (xs : List V) (ts : List T) (Q : VK) (R : T → Prop), Shrs K H S ts xs → g ts R → (∀ z v H', R z → Same H H' → Shr K H' (fresh S H) z v → Q v H') → r xs H Q
def gI2 (g : Int → Int → T) : F2 := fun x y R => match x, y with
  | .int i, .int j => R (g i j)
  | _, _ => False
def gI2c (C : Int → Int → Prop) (g : Int → Int → T) : F2 := fun x y R => match x, y with
  | .int i, .int j => C i j ∧ R (g i j)
  | _, _ => False
section
variable {K : PySem.W.Frag} {S : Addr → Prop} {H H' : Hp}
theorem fr_int {i : Int} : Shr K H S (.int i) (.int i) := .int i
theorem fr_bl {i : Bool} : Shr K H S (.bl i) (.bl i) := .bl i
theorem opT_int {g : Int → Int → Int} : OpT K (rI0 fun i j => .int (g i j)) (gI2 fun i j => .int (g i j)) := by
  intro S H x y t u Q R h1 h2 hg hq
  cases t <;> first | exact hg.elim | skip
  cases u <;> first | exact hg.elim | skip
  exact ⟨_, _, (shr_int h1), (shr_int h2), hq _ _ _ hg (Same.refl H) (.int _)⟩
theorem opT_intc {C : Int → Int → Prop} {g : Int → Int → Int} : OpT K (rI C fun i j => .int (g i j)) (gI2c C fun i j => .int (g i j)) := by
  intro S H x y t u Q R h1 h2 hg hq
  cases t <;> first | exact hg.elim | skip
  cases u <;> first | exact hg.elim | skip
  exact ⟨_, _, (shr_int h1), (shr_int h2), hg.1, hq _ _ _ hg.2 (Same.refl H) (.int _)⟩
theorem opT_bl {g : Int → Int → Bool} : OpT K (rI0 fun i j => .bl (g i j)) (gI2 fun i j => .bl (g i j)) := by
  intro S H x y t u Q R h1 h2 hg hq
  cases t <;> first | exact hg.elim | skip
  cases u <;> first | exact hg.elim | skip
  exact ⟨_, _, (shr_int h1), (shr_int h2), hq _ _ _ hg (Same.refl H) (.bl _)⟩
theorem unT_int {g : Int → Int} : UnT K (rU fun i => .int (g i)) (fun x R => match x with | .int i => R (.int (g i)) | _ => False) := by
  intro S H x t Q R h1 hg hq
  cases t <;> first | exact hg.elim | skip
  exact ⟨_, (shr_int h1), hq _ _ _ hg (Same.refl H) (.int _)⟩

/-! ### == of trees -/
mutual
def T.pd : T → PyData
  | .non => .none
  | .bl b => .bool b
  | .int i => .int i
  | .str s => .str s
  | .tup ts => .tuple (T.pds ts)
  | .ctp ts => .tuple (T.pds ts)
  | .nd .lst ts => .list (T.pds ts)
  | .nd _ _ => .none
  | .opq _ _ => .none
  | .exc _ _ _ _ => .none
  | .scr ns => .list (ns.map .int)
def T.pds : List T → List PyData
  | [] => []
  | t :: ts => t.pd :: T.pds ts
end
mutual
def T.data : T → Bool
  | .tup ts => T.datas ts
  | .ctp ts => T.datas ts
  | .nd .lst ts => T.datas ts
  | .nd _ _ => false
  | .opq _ _ => false
  | .exc _ _ _ _ => false
  | .scr _ => false
  | .non => true
  | .bl _ => true
  | .int _ => true
  | .str _ => true
def T.datas : List T → Bool
  | [] => true
  | t :: ts => T.data t && T.datas ts
end
mutual
theorem Shr.dp {t : T} {v : V} (h : Shr K H S t v) (hd : t.data = true) : Dp K H v t.pd := by
  cases t with
  | non => cases h; exact .non
  | bl _ => cases h; exact .bl _
  | int _ => cases h; exact .int _
  | str _ => cases h; exact .str _
  | scr _ => rw [T.data] at hd; cases hd
  | opq _ _ => rw [T.data] at hd; cases hd
  | exc _ _ _ _ => rw [T.data] at hd; cases hd
  | tup ts =>
    obtain ⟨a, vs, rfl, q, r⟩ := shr_tup h
    rw [T.data] at hd
    rw [T.pd]
    exact .tup q (Shrs.dp r hd)
  | ctp ts =>
    obtain ⟨a, vs, rfl, q, r⟩ := shr_ctp h
    rw [T.data] at hd
    rw [T.pd]
    exact .tup q (Shrs.dp r hd)
  | nd kd ts =>
    cases kd with
    | lst =>
      obtain ⟨a, vs, rfl, q, r⟩ := (shr_lst h)
      rw [T.data] at hd
      rw [T.pd]
      exact .lst q.sq (Shrs.dp r hd)
    | dK _ => rw [T.data] at hd <;> first | (cases hd; done) | (intros; simp)
    | dT _ => rw [T.data] at hd <;> first | (cases hd; done) | (intros; simp)
    | ins _ _ => rw [T.data] at hd <;> first | (cases hd; done) | (intros; simp)
theorem Shrs.dp {ts : List T} {vs : List V} (h : Shrs K H S ts vs) (hd : T.datas ts = true) : DpAll K H vs (T.pds ts) := by
  cases ts with
  | nil => cases h; exact .nil
  | cons t ts =>
    obtain ⟨v, r, rfl, a, b⟩ := h.uncons
    rw [T.datas, Bool.and_eq_true] at hd
    exact .cons (Shr.dp a hd.1) (Shrs.dp b hd.2)
end
/-- fit for ==: data, not too deep -/
def T.eqok (t : T) : Bool := t.data && SeqAt.shaped t.pd
def T.eqv (t u : T) : Bool := PyData.eqv t.pd u.pd
theorem opT_eqD : OpT K (rEqD K) (fun t u R => t.eqok = true ∧ u.eqok = true ∧ R (.bl (t.eqv u))) := by
  intro S H x y t u Q R h1 h2 hg hq
  obtain ⟨g1, g2, g3⟩ := hg
  unfold T.eqok at g1 g2
  rw [Bool.and_eq_true] at g1 g2
  exact ⟨t.pd, u.pd, h1.dp g1.1, h2.dp g2.1, g1.2, g2.2, hq _ _ _ g3 (Same.refl H) (.bl _)⟩
theorem opT_neD : OpT K (rNeD K) (fun t u R => t.eqok = true ∧ u.eqok = true ∧ R (.bl (!t.eqv u))) := by
  intro S H x y t u Q R h1 h2 hg hq
  obtain ⟨g1, g2, g3⟩ := hg
  unfold T.eqok at g1 g2
  rw [Bool.and_eq_true] at g1 g2
  exact ⟨t.pd, u.pd, h1.dp g1.1, h2.dp g2.1, g1.2, g2.2, hq _ _ _ g3 (Same.refl H) (.bl _)⟩
def isNon : T → Bool
  | .non => true
  | _ => false
theorem shr_isNon {t : T} {v : V} (h : Shr K H S t v) : decide (v = V.non) = isNon t := by
  cases h <;> first | rfl | exact decide_eq_false (fun z => nomatch z)
theorem opT_isN : OpT K (fun x y H Q => y = .non ∧ Q (.bl (decide (x = .non))) H) (fun t u R => match u with | .non => R (.bl (isNon t)) | _ => False) := by
  intro S H x y t u Q R h1 h2 hg hq
  cases u <;> first | exact hg.elim | skip
  exact ⟨(shr_non h2), hq _ _ _ hg (Same.refl H) (by rw [shr_isNon h1]; exact .bl _)⟩
theorem opT_notN : OpT K (fun x y H Q => y = .non ∧ Q (.bl (!decide (x = .non))) H) (fun t u R => match u with | .non => R (.bl (!isNon t)) | _ => False) := by
  intro S H x y t u Q R h1 h2 hg hq
  cases u <;> first | exact hg.elim | skip
  exact ⟨(shr_non h2), hq _ _ _ hg (Same.refl H) (by rw [shr_isNon h1]; exact .bl _)⟩
/-- x is True, x is False -/
def rIsBV : R2 := fun x y H Q => ∃ b : Bool, y = .bl b ∧ Q (.bl (decide (x = .bl b))) H
theorem op_isBV {X : Cx} : OpR X (compareOp .Is) rIsBV := by
  intro pins s σ H x y v u Q I rx ry h
  obtain ⟨b, rfl, q⟩ := h
  cases (show u = Value.bool b from ry)
  have fin : ∀ {c : Bool}, c = decide (x = V.bl b) → EP X pins σ Q (.bool c) s := fun e => by
    subst e
    exact ⟨.bl _, H, I, rfl, q⟩
  cases x with
  | bl c =>
    cases (show v = Value.bool c from rx)
    refine wpAny_pure (fin ?_)
    by_cases e : c = b
    · subst e; simp
    · rw [decide_eq_false (fun z => e (V.bl.inj z))]
      exact beq_eq_false_iff_ne.mpr (fun z => e (Value.bool.inj z))
  | non => cases (show v = Value.none from rx); exact wpAny_pure (fin (decide_eq_false (fun z => nomatch z)).symm)
  | int _ => obtain ⟨t, rfl⟩ := rx; exact wpAny_pure (fin (decide_eq_false (fun z => nomatch z)).symm)
  | str _ => obtain ⟨t, rfl⟩ := rx; exact wpAny_pure (fin (decide_eq_false (fun z => nomatch z)).symm)
  | byt _ => obtain ⟨t, rfl⟩ := rx; exact wpAny_pure (fin (decide_eq_false (fun z => nomatch z)).symm)
  | flt _ => obtain ⟨t, rfl⟩ := rx; exact wpAny_pure (fin (decide_eq_false (fun z => nomatch z)).symm)
  | ref a => cases (show v = Value.ref a from rx); exact wpAny_pure (fin (decide_eq_false (fun z => nomatch z)).symm)
  | ty n => cases (show v = Value.type n from rx); exact wpAny_pure (fin (decide_eq_false (fun z => nomatch z)).symm)
def isBl (b : Bool) : T → Bool
  | .bl c => c == b
  | _ => false
theorem opT_isBV : OpT K rIsBV (fun t u R => match u with | .bl b => R (.bl (isBl b t)) | _ => False) := by
  intro S H x y t u Q R h1 h2 hg hq
  cases u with
  | bl b =>
    refine ⟨b, (shr_bl h2), hq _ _ _ hg (Same.refl H) ?_⟩
    have e : decide (x = V.bl b) = isBl b t := by
      cases h1 <;> first | exact decide_eq_false (fun z => nomatch z) | skip
      · rename_i c
        show decide (V.bl c = V.bl b) = (c == b)
        by_cases e : c = b
        · subst e; simp
        · rw [decide_eq_false (fun z => e (V.bl.inj z))]
          exact (beq_eq_false_iff_ne.mpr e).symm
    rw [e]
    exact .bl _
  | _ => exact hg.elim
/-- texts compared -/
theorem opT_eqS : OpT K rEq (fun t u R => match t, u with | .str a, .str b => R (.bl (decide (a = b))) | .int a, .int b => R (.bl (decide (a = b))) | .bl a, .bl b => R (.bl (decide (a = b))) | _, _ => False) := by
  intro S H x y t u Q R h1 h2 hg hq
  cases t <;> cases u <;> first | exact hg.elim | skip
  · rw [(shr_bl h1), (shr_bl h2)]
    refine ⟨rfl, hq _ _ _ hg (Same.refl H) ?_⟩
    have e : ∀ a b : Bool, decide (V.bl a = V.bl b) = decide (a = b) := by decide
    rw [e]; exact .bl _
  · rename_i a b
    rw [(shr_int h1), (shr_int h2)]
    refine ⟨rfl, hq _ _ _ hg (Same.refl H) ?_⟩
    have e : decide (V.int a = V.int b) = decide (a = b) := by
      by_cases z : a = b
      · subst z; simp
      · rw [decide_eq_false z, decide_eq_false (fun y => z (V.int.inj y))]
    rw [e]; exact .bl _
  · rename_i a b
    rw [(shr_str h1), (shr_str h2)]
    refine ⟨rfl, hq _ _ _ hg (Same.refl H) ?_⟩
    have e : decide (V.str a = V.str b) = decide (a = b) := by
      by_cases z : a = b
      · subst z; simp
      · rw [decide_eq_false z, decide_eq_false (fun y => z (V.str.inj y))]
    rw [e]; exact .bl _
end

/-! ### pure expressions -/
section
variable {X : Cx} {e a b c : Expr} {es : List Expr} {pos : Pos} {w wa wb wc : List Ent → (T → Prop) → Prop} {wA : List Ent → (List T → Prop) → Prop}
def wVar (i : Nat) : List Ent → (T → Prop) → Prop := fun ρ R => match (ρ[i]?.bind Ent.tr) with
  | some t => R t
  | none => False
def wC (t : T) : List Ent → (T → Prop) → Prop := fun _ R => R t
def w2 (g : F2) (wa wb : List Ent → (T → Prop) → Prop) : List Ent → (T → Prop) → Prop := fun ρ R => wa ρ fun x => wb ρ fun y => g x y R
def w1 (g : F1) (wa : List Ent → (T → Prop) → Prop) : List Ent → (T → Prop) → Prop := fun ρ R => wa ρ fun x => g x R
theorem tp_var (i : Nat) {x : Str} (hN : X.N[i]? = some x := by rfl) (hv : Vis X.env.scope x := by first | exact Or.inl rfl | exact Or.inr (Or.inl rfl) | exact Or.inr (Or.inr rfl)) (hd : (x == ("__debug__" : Str)) = false := by decide)
    (hcd : (x == ("__classdict__" : Str)) = false := by decide) : TPE X (.Name x pos) (wVar i) := by
  refine ⟨⟨_, pe_var hN hv hd hcd, fun S ρ σ H Q R hr hw hq => ?_⟩⟩
  unfold wVar at hw
  cases q : ρ[i]? with
  | none => rw [q] at hw; exact hw.elim
  | some e =>
    rw [q] at hw
    cases q2 : e.tr with
    | none => simp [q2] at hw
    | some t =>
      simp [q2] at hw
      obtain ⟨v, h1, h2⟩ := hr i e t q q2
      exact ⟨v, h1, hq t v H hw (Same.refl H) (h2.mono fun _ => .inl)⟩
theorem tp_c {t : T} {v : V} (h : PE X e (tC v)) (hv : ∀ S H, Shr X.K H S t v) : TPE X e (wC t) := ⟨⟨_, h, fun S ρ σ H Q R _ hw hq => hq t v H hw (Same.refl H) (hv _ _)⟩⟩
theorem tp_int {i : Int} {j : Nat} : TPE X (.Constant (.int i) j pos) (wC (.int i)) := tp_c pe_int fun _ _ => .int i
theorem tp_str {i : Str} {j : Nat} : TPE X (.Constant (.str i) j pos) (wC (.str i)) := tp_c pe_str fun _ _ => .str i
theorem tp_bl {i : Bool} {j : Nat} : TPE X (.Constant (.bool i) j pos) (wC (.bl i)) := tp_c pe_bl fun _ _ => .bl i
theorem tp_non {j : Nat} : TPE X (.Constant .none j pos) (wC .non) := tp_c pe_non fun _ _ => .non
theorem tp_globI {x : Str} {i : Int} (hg : Gl X x) (hm : ∃ t, X.mg x = some (.int i t)) (hd : (x == ("__debug__" : Str)) = false := by decide) : TPE X (.Name x pos) (wC (.int i)) := by
  obtain ⟨t, hm⟩ := hm
  exact tp_c (v := .int i) (pe_glob hg hm ⟨t, rfl⟩ hd) fun _ _ => .int i
theorem shr_up {S : Addr → Prop} {H H1 H2 : Hp} {t : T} {v : V} (h : Shr X.K H1 (fresh S H) t v) (s : Same H1 H2) : Shr X.K H2 (fresh (fresh S H) H1) t v := h.keep (fun _ => .inl) (.same s)
theorem shr_dn {S : Addr → Prop} {H H1 H2 : Hp} {t : T} {v : V} (h : Shr X.K H2 (fresh (fresh S H) H1) t v) (s : Same H H1) : Shr X.K H2 (fresh S H) t v := h.mono fun _ z => fresh_trans s z
theorem two {ta tb : TE} (ka : ∀ (S : Addr → Prop) (ρ : List Ent) (σ : St) (H : Hp) (Q : VK) (R : T → Prop), RdS X.K S ρ σ H → wa ρ R → (∀ t v H', R t → Same H H' → Shr X.K H' (fresh S H) t v → Q v H') → ta σ H Q)
    (kb : ∀ (S : Addr → Prop) (ρ : List Ent) (σ : St) (H : Hp) (Q : VK) (R : T → Prop), RdS X.K S ρ σ H → wb ρ R → (∀ t v H', R t → Same H H' → Shr X.K H' (fresh S H) t v → Q v H') → tb σ H Q)
    {r : R2} {g : F2} (hg : OpT X.K r g) {S : Addr → Prop} {ρ : List Ent} {σ : St} {H : Hp} {Q : VK} {R : T → Prop} (hr : RdS X.K S ρ σ H) (hw : w2 g wa wb ρ R) (hq : ∀ t v H', R t → Same H H' → Shr X.K H' (fresh S H) t v → Q v H') : tOp r ta tb σ H Q := by
  refine ka S ρ σ H _ _ hr hw fun t v H1 h1 s1 x1 => ?_
  refine kb (fresh S H) ρ σ H1 _ _ (hr.same s1) h1 fun u v2 H2 h2 s2 x2 => ?_
  refine hg (fresh (fresh S H) H1) H2 v v2 t u Q R (shr_up x1 s2) x2 h2 fun z v3 H3 h3 s3 x3 => ?_
  exact hq z v3 H3 h3 ((s1.trans s2).trans s3) (shr_dn (shr_dn x3 s2) s1)
theorem tp_op {op : Operator} {r : R2} {g : F2} (ho : OpR X (binaryOp op) r) (hg : OpT X.K r g) (ha : TPE X a wa) (hb : TPE X b wb) : TPE X (.BinOp a op b pos) (w2 g wa wb) := by
  obtain ⟨ta, pa, ka⟩ := ha.ok
  obtain ⟨tb, pb, kb⟩ := hb.ok
  exact ⟨⟨_, pe_op ho pa pb, fun S ρ σ H Q R hr hw hq => two ka kb hg hr hw hq⟩⟩
theorem tp_cmp {op : CmpOp} {r : R2} {g : F2} (ho : OpR X (compareOp op) r) (hg : OpT X.K r g) (ha : TPE X a wa) (hb : TPE X b wb) (hm : behindInMarks op b = false) : TPE X (.Compare a [op] [b] pos) (w2 g wa wb) := by
  obtain ⟨ta, pa, ka⟩ := ha.ok
  obtain ⟨tb, pb, kb⟩ := hb.ok
  exact ⟨⟨_, pe_cmpR ho pa pb hm, fun S ρ σ H Q R hr hw hq => two ka kb hg hr hw hq⟩⟩
theorem tp_un {op : UnaryOp} {r : V → Hp → VK → Prop} {g : F1} (ho : UnR X (unaryOp op) r) (hg : UnT X.K r g) (ha : TPE X a wa) : TPE X (.UnaryOp op a pos) (w1 g wa) := by
  obtain ⟨ta, pa, ka⟩ := ha.ok
  refine ⟨⟨_, pe_un ho pa, fun S ρ σ H Q R hr hw hq => ?_⟩⟩
  refine ka S ρ σ H _ _ hr hw fun t v H1 h1 s1 x1 => ?_
  refine hg (fresh S H) H1 v t Q R x1 h1 fun z v3 H3 h3 s3 x3 => ?_
  exact hq z v3 H3 h3 (s1.trans s3) (shr_dn x3 s1)
/-! tests -/
def asB : T → (Bool → Prop) → Prop := fun t R => match t with
  | .bl b => R b
  | _ => False
def wT (w : List Ent → (T → Prop) → Prop) : List Ent → (Bool → Prop) → Prop := fun ρ R => w ρ fun t => asB t R
theorem asB_ok {K : PySem.W.Frag} {S : Addr → Prop} {H : Hp} {t : T} {v : V} {R : Bool → Prop} (h : Shr K H S t v) (hb : asB t R) : ∃ b, v = .bl b ∧ R b := by
  cases t <;> first | exact hb.elim | skip
  exact ⟨_, (shr_bl h), hb⟩
theorem tpt_cmp {op : CmpOp} {r : R2} {g : F2} (ho : OpR X (compareOp op) r) (hg : OpT X.K r g) (ha : TPE X a wa) (hb : TPE X b wb) (hm : behindInMarks op b = false) : TPT X (.Compare a [op] [b] pos) (wT (w2 g wa wb)) := by
  obtain ⟨ta, pa, ka⟩ := ha.ok
  obtain ⟨tb, pb, kb⟩ := hb.ok
  refine ⟨⟨_, pt_cmpR ho pa pb hm, fun S ρ σ H Q R hr hw hq => two (wa := wa) (wb := wb) ka kb hg hr (R := fun t => asB t R) hw fun t v H' h1 s1 x1 => ?_⟩⟩
  obtain ⟨k, e, h⟩ := asB_ok x1 h1
  exact ⟨k, e, hq k H' h s1⟩
theorem tpt_val (ha : TPE X a wa) (he : ∀ whole, isTrue a X.env whole = (do let v ← whole; standAt a.pos; holding [v] (truthy v)) := by intro _; rfl) : TPT X a (wT wa) := by
  obtain ⟨ta, pa, ka⟩ := ha.ok
  refine ⟨⟨_, pt_val pa he, fun S ρ σ H Q R hr hw hq => ka S ρ σ H _ _ hr hw fun t v H' h1 s1 x1 => ?_⟩⟩
  obtain ⟨k, e, h⟩ := asB_ok x1 h1
  exact ⟨k, e, hq k H' h s1⟩
def wChain (g g' : F2) (wa wb wc : List Ent → (T → Prop) → Prop) : List Ent → (T → Prop) → Prop := fun ρ R => wa ρ fun x => wb ρ fun y => g x y fun z => asB z fun k => if k = true then wc ρ fun u => g' y u R else R (.bl false)
theorem chain_ok {r r' : R2} {g g' : F2} {ta tb tc : TE} (ka : ∀ (S : Addr → Prop) (ρ : List Ent) (σ : St) (H : Hp) (Q : VK) (R : T → Prop), RdS X.K S ρ σ H → wa ρ R → (∀ t v H', R t → Same H H' → Shr X.K H' (fresh S H) t v → Q v H') → ta σ H Q)
    (kb : ∀ (S : Addr → Prop) (ρ : List Ent) (σ : St) (H : Hp) (Q : VK) (R : T → Prop), RdS X.K S ρ σ H → wb ρ R → (∀ t v H', R t → Same H H' → Shr X.K H' (fresh S H) t v → Q v H') → tb σ H Q)
    (kc : ∀ (S : Addr → Prop) (ρ : List Ent) (σ : St) (H : Hp) (Q : VK) (R : T → Prop), RdS X.K S ρ σ H → wc ρ R → (∀ t v H', R t → Same H H' → Shr X.K H' (fresh S H) t v → Q v H') → tc σ H Q)
    (hg : OpT X.K r g) (hg' : OpT X.K r' g') {S : Addr → Prop} {ρ : List Ent} {σ : St} {H : Hp} {Q : VK} {R : T → Prop} (hr : RdS X.K S ρ σ H) (hw : wChain g g' wa wb wc ρ R) (hq : ∀ t v H', R t → Same H H' → Shr X.K H' (fresh S H) t v → Q v H') : tChain r r' ta tb tc σ H Q := by
  refine ka S ρ σ H _ _ hr hw fun t v H1 h1 s1 x1 => ?_
  refine kb (fresh S H) ρ σ H1 _ _ (hr.same s1) h1 fun u v2 H2 h2 s2 x2 => ?_
  refine hg (fresh (fresh S H) H1) H2 v v2 t u _ _ (shr_up x1 s2) x2 h2 fun z v3 H3 h3 s3 x3 => ?_
  obtain ⟨k, e, h⟩ := asB_ok x3 h3
  refine ⟨k, e, ?_⟩
  cases k with
  | true =>
    rw [if_pos rfl] at h ⊢
    refine kc (fresh (fresh (fresh S H) H1) H2) ρ σ H3 _ _ ((((hr.same s1).same s2)).same s3) h fun u4 v4 H4 h4 s4 x4 => ?_
    refine hg' (fresh (fresh (fresh (fresh S H) H1) H2) H3) H4 v2 v4 u u4 Q R (shr_up (shr_up x2 s3) s4) x4 h4 fun z5 v5 H5 h5 s5 x5 => ?_
    exact hq z5 v5 H5 h5 ((((s1.trans s2).trans s3).trans s4).trans s5) (shr_dn (shr_dn (shr_dn (shr_dn x5 s4) s3) s2) s1)
  | false =>
    rw [if_neg Bool.false_ne_true] at h ⊢
    exact hq _ _ _ h ((s1.trans s2).trans s3) (.bl _)
theorem tp_chain {op op' : CmpOp} {r r' : R2} {g g' : F2} (ho : OpR X (compareOp op) r) (ho' : OpR X (compareOp op') r') (hg : OpT X.K r g) (hg' : OpT X.K r' g') (ha : TPE X a wa) (hb : TPE X b wb) (hc : TPE X c wc)
    (hm : lastMarks [op, op'] [b, c] = false := by rfl) : TPE X (.Compare a [op, op'] [b, c] pos) (wChain g g' wa wb wc) := by
  obtain ⟨ta, pa, ka⟩ := ha.ok
  obtain ⟨tb, pb, kb⟩ := hb.ok
  obtain ⟨tc, pc, kc⟩ := hc.ok
  exact ⟨⟨_, pe_chain ho ho' pa pb pc hm, fun S ρ σ H Q R hr hw hq => chain_ok ka kb kc hg hg' hr hw hq⟩⟩
theorem tpt_chain {op op' : CmpOp} {r r' : R2} {g g' : F2} (ho : OpR X (compareOp op) r) (ho' : OpR X (compareOp op') r') (hg : OpT X.K r g) (hg' : OpT X.K r' g') (ha : TPE X a wa) (hb : TPE X b wb) (hc : TPE X c wc)
    (hm : lastMarks [op, op'] [b, c] = false := by rfl) : TPT X (.Compare a [op, op'] [b, c] pos) (wT (wChain g g' wa wb wc)) := by
  obtain ⟨ta, pa, ka⟩ := ha.ok
  obtain ⟨tb, pb, kb⟩ := hb.ok
  obtain ⟨tc, pc, kc⟩ := hc.ok
  refine ⟨⟨_, pt_chain ho ho' pa pb pc hm, fun S ρ σ H Q R hr hw hq => chain_ok (wa := wa) (wb := wb) (wc := wc) ka kb kc hg hg' hr (R := fun t => asB t R) hw fun t v H' h1 s1 x1 => ?_⟩⟩
  obtain ⟨k, e, h⟩ := asB_ok x1 h1
  exact ⟨k, e, hq k H' h s1⟩
end
end TL
set_option Elab.async false
set_option linter.all false
set_option maxRecDepth 100000
namespace TL
open PySem PySem.Spec PyProof.Rows L2

/-! ### what a def promises -/
inductive Par where
  | sh | io (n : Nat)
def entOf : Par → T → Ent
  | .sh, t => .ow 0 t
  | .io n, t => .io n t
inductive Pin : List Par → List T → List V → List Root → Prop
  | nil : Pin [] [] [] []
  | cons {p : Par} {ps : List Par} {t : T} {ts : List T} {v : V} {vs : List V} {F : List Addr} {rs : List Root} : Pin ps ts vs rs → Pin (p :: ps) (t :: ts) (v :: vs) (⟨entOf p t, some v, F⟩ :: rs)
/-- the changed arguments behind a call -/
inductive Pout : List Par → List T → List V → List Root → Prop
  | nil : Pout [] [] [] []
  | sh {ps : List Par} {ts : List T} {v : V} {vs : List V} {rs : List Root} : Pout ps ts vs rs → Pout (.sh :: ps) ts (v :: vs) rs
  | io {n : Nat} {ps : List Par} {t : T} {ts : List T} {v : V} {vs : List V} {F : List Addr} {rs : List Root} : Pout ps ts vs rs → Pout (.io n :: ps) (t :: ts) (v :: vs) (⟨.io n t, some v, F⟩ :: rs)
abbrev FnT := List T → (Nat → T → List T → Prop) → Prop
def callFm (S : Addr → Prop) (H : Hp) (rs : List Root) : Fm := ⟨S, H, foot rs, []⟩
def spT (K : PySem.W.Frag) (ps : List Par) (W : FnT) : Sp := fun vs H Q _ => ∃ (ts : List T) (S : Addr → Prop) (rs : List Root) (R : Nat → T → List T → Prop),
  Pin ps ts vs rs ∧ Good K (callFm S H rs) S rs H ∧ W ts R ∧
  ∀ (n : Nat) (t : T) (outs : List T) (v : V) (H' : Hp) (S' : Addr → Prop) (rs' : List Root) (F0 : List Addr), R n t outs → Pout ps outs vs rs' → Good K (callFm S H rs) S' (rs' ++ [tmp n t v F0]) H' → Q v H'

section
variable {K : PySem.W.Frag} {f : Fm} {S S' : Addr → Prop} {H H' : Hp} {τ τ' ms rs rs' : List Root} {ρ ρ' : List Ent} {σ : St}
theorem Pin.lenV : ∀ {ps : List Par} {ts : List T} {vs : List V} {rs : List Root}, Pin ps ts vs rs → vs.length = ps.length
  | _, _, _, _, .nil => rfl
  | _, _, _, _, .cons h => by rw [List.length_cons, List.length_cons, Pin.lenV h]
theorem Pin.lenR : ∀ {ps : List Par} {ts : List T} {vs : List V} {rs : List Root}, Pin ps ts vs rs → rs.length = vs.length
  | _, _, _, _, .nil => rfl
  | _, _, _, _, .cons h => by rw [List.length_cons, List.length_cons, Pin.lenR h]
theorem Pin.lenT : ∀ {ps : List Par} {ts : List T} {vs : List V} {rs : List Root}, Pin ps ts vs rs → ts.length = ps.length
  | _, _, _, _, .nil => rfl
  | _, _, _, _, .cons h => by rw [List.length_cons, List.length_cons, Pin.lenT h]
theorem Pin.outs : ∀ {ps : List Par} {ts : List T} {vs : List V} {rs : List Root}, Pin ps ts vs rs → rs.map (·.o) = vs.map some
  | _, _, _, _, .nil => rfl
  | _, _, _, _, .cons h => by rw [List.map_cons, List.map_cons, Pin.outs h]
def iniE : List Par → List T → List Ent
  | p :: ps, t :: ts => entOf p t :: iniE ps ts
  | _, _ => []
theorem Pin.ents : ∀ {ps : List Par} {ts : List T} {vs : List V} {rs : List Root}, Pin ps ts vs rs → rs.map (·.e) = iniE ps ts
  | _, _, _, _, .nil => rfl
  | _, _, _, _, .cons h => by rw [List.map_cons, Pin.ents h]; rfl
/-- what the changed parameters hold at the end -/
def outsOf : List Par → List Ent → Option (List T)
  | [], _ => some []
  | .sh :: ps, _ :: ρ => outsOf ps ρ
  | .io n :: ps, .io m t :: ρ => if n = m then (outsOf ps ρ).map (t :: ·) else none
  | _, _ => none
theorem outs_roots : ∀ {ps : List Par} {rs : List Root} {vs : List V} {outs : List T}, outsOf ps (rs.map (·.e)) = some outs → vs.length = ps.length → (∀ (i : Nat) r n t, rs[i]? = some r → r.e = .io n t → r.o = vs[i]?) →
    ∃ (rs' : List Root) (g : Nat → Nat), Pout ps outs vs rs' ∧ (∀ m r, rs'[m]? = some r → rs[g m]? = some r) ∧ (∀ m l, m < rs'.length → l < rs'.length → g m = g l → m = l)
  | [], rs, vs, outs, h, hl, _ => by
    have e : outs = [] := by cases rs <;> (rw [outsOf] at h; exact (Option.some.inj h).symm)
    subst e
    have e : vs = [] := List.eq_nil_of_length_eq_zero hl
    subst e
    exact ⟨[], fun m => m, .nil, fun m r h => by simp at h, fun m l h => by simp at h⟩
  | .sh :: ps, [], vs, outs, h, hl, _ => by simp [outsOf] at h
  | .sh :: ps, r :: rs, [], outs, h, hl, _ => by simp at hl
  | .sh :: ps, r :: rs, v :: vs, outs, h, hl, hv => by
    rw [List.map_cons, outsOf] at h
    obtain ⟨rs', g, h1, h2, h3⟩ := outs_roots h (by simpa using hl) (fun i q n t a b => by
      have := hv (i + 1) q n t (by simpa using a) b
      simpa using this)
    exact ⟨rs', fun m => g m + 1, .sh h1, fun m q e => by simpa using h2 m q e, fun m l a b c => h3 m l a b (Nat.succ.inj c)⟩
  | .io n :: ps, [], vs, outs, h, hl, _ => by simp [outsOf] at h
  | .io n :: ps, r :: rs, [], outs, h, hl, _ => by simp at hl
  | .io n :: ps, ⟨re, ro, rF⟩ :: rs, v :: vs, outs, h, hl, hv => by
    rw [List.map_cons] at h
    cases re with
    | io m t =>
      show ∃ rs' g, _
      rw [outsOf] at h
      by_cases e : n = m
      · subst e
        rw [if_pos rfl] at h
        cases q : outsOf ps (rs.map (·.e)) with
        | none => rw [q] at h; cases h
        | some outs' =>
          rw [q] at h
          have h := (Option.some.inj h).symm
          subst h
          obtain ⟨rs', g, h1, h2, h3⟩ := outs_roots q (by simpa using hl) (fun i q n t a b => by
            have := hv (i + 1) q n t (by simpa using a) b
            simpa using this)
          have e2 := hv 0 _ n t rfl rfl
          have e2 : ro = some v := by simpa using e2
          subst e2
          refine ⟨⟨.io n t, some v, rF⟩ :: rs', fun m => match m with | 0 => 0 | m + 1 => g m + 1, .io h1, fun m q e => ?_, fun m l a b c => ?_⟩
          · cases m with
            | zero => simpa using e
            | succ m => simpa using h2 m q (by simpa using e)
          · cases m with
            | zero =>
              cases l with
              | zero => rfl
              | succ l => simp at c
            | succ m =>
              cases l with
              | zero => simp at c
              | succ l =>
                have := h3 m l (by simpa using a) (by simpa using b) (by simpa using c)
                rw [this]
      · rw [if_neg e] at h; cases h
    | no => rw [outsOf] at h <;> first | cases h | simp
    | ow _ _ => rw [outsOf] at h <;> first | cases h | simp
    | ro _ => rw [outsOf] at h <;> first | cases h | simp
    | al _ _ _ => rw [outsOf] at h <;> first | cases h | simp

/-! ### statements -/
/-- an exception: its class, what its own dict holds -/
structure XT where
  C : Addr
  fs : List (Str × V)
/-- flat values -/
def T.v1 : T → V
  | .bl b => .bl b
  | .int i => .int i
  | .str s => .str s
  | _ => .non
def T.is1 : T → Bool
  | .bl _ => true
  | .int _ => true
  | .str _ => true
  | .non => true
  | _ => false
def ExcAt (x : XT) (cls : Value) (d : Option Addr) (H : Hp) : Prop := cls = .ref x.C ∧ ∃ dd, d = some dd ∧ H dd = some (.xd x.fs)
structure TEnds where
  nx : List Ent → Prop
  rt : Nat → T → List Ent → Prop
  bk : List Ent → Prop := fun _ => False
  ct : List Ent → Prop := fun _ => False
  xc : XT → List Ent → Prop := fun _ _ => False
structure Lk (K : PySem.W.Frag) (f : Fm) (τ : List Root) (De : TEnds) (D : Ends) (W : WX) : Prop where
  nx : ∀ ρ σ H, De.nx ρ → Sta K f τ ρ σ H → D.nx σ H
  rt : ∀ n t ρ σ v F H, De.rt n t ρ → Sta K f (τ ++ [tmp n t v F]) ρ σ H → D.rt v H
  bk : ∀ ρ σ H, De.bk ρ → Sta K f τ ρ σ H → D.bk σ H
  ct : ∀ ρ σ H, De.ct ρ → Sta K f τ ρ σ H → D.ct σ H
  xc : ∀ x ρ σ cls d H, De.xc x ρ → Sta K f τ ρ σ H → ExcAt x cls d H → W cls d σ H
structure TSs (X : Cx) (W : WX) (sts : List Stmt) (w : TEnds → List Ent → Prop) : Prop where
  ok : ∃ tt : TS, PSs X sts tt ∧ ∀ (f : Fm) (τ : List Root) (ρ : List Ent) (σ : St) (H : Hp) (De : TEnds) (D : Ends), Sta X.K f τ ρ σ H → Lk X.K f τ De D W → w De ρ → tt D σ H
structure TS1 (X : Cx) (W : WX) (st : Stmt) (w : TEnds → List Ent → Prop) : Prop where
  ok : ∃ tt : TS, PS X st tt ∧ ∀ (f : Fm) (τ : List Root) (ρ : List Ent) (σ : St) (H : Hp) (De : TEnds) (D : Ends), Sta X.K f τ ρ σ H → Lk X.K f τ De D W → w De ρ → tt D σ H
/-- the slots at the entry -/
def rho0 (ps : List Par) (ts : List T) (n : Nat) : List Ent := iniE ps ts ++ List.replicate (n - ts.length) .no
def endsOf (ps : List Par) (R : Nat → T → List T → Prop) : TEnds where
  nx := fun ρ => match outsOf ps ρ with
    | some o => R 0 .non o
    | none => False
  rt := fun n t ρ => match outsOf ps ρ with
    | some o => R n t o
    | none => False
end
section
variable {P : Program} {w : World} {K : PySem.W.Frag} {mg : Str → Option Value} {base : Heap}
/-- THE RULE for a def -/
theorem fnT {x qual : Str} {st : Stmt} {fa : Addr} {fd : FuncData} {N ps : List Str} {k : Nat} {pars : List Par} {W : FnT} (F : Fun K x qual st fa fd) (S : FnScope N ps (defScope st)) (hl : pars.length = ps.length)
    (hbody : ∀ (X : Cx) (cdv : Value) (A : Around) (outer : List Env) (s : Shared) (H : Hp) (E : XK), X = (cxOf CX0 P w K mg base N qual (defScope st) fa cdv A outer s H E).nox → Room k X.A → ∃ u, TSs X (fun _ _ _ _ => False) (defBody st) u ∧ ∀ ts R, W ts R → ts.length = pars.length → u (endsOf pars R) (rho0 pars ts N.length)) :
    FnOk P w K mg base CX0 (k + 1) fa fd ps (spT K pars W) := by
  refine F.ok S (fun vs H Q E h => ?_) (fun cdv A outer s H vs Q E hr h => ?_)
  · obtain ⟨ts, S0, rs, R, h1, _⟩ := h
    rw [h1.lenV, hl]
  · obtain ⟨ts, S0, rs, R, h1, h2, h3, h4⟩ := h
    obtain ⟨u, hu, hW⟩ := hbody _ cdv A outer s H E rfl hr
    obtain ⟨tt, hp, ht⟩ := hu.ok
    refine ⟨tt, hp, ?_⟩
    have hw := hW ts R h3 h1.lenT
    have hN : ps.length ≤ N.length := by have := congrArg List.length S.pre; rw [List.length_take] at this; omega
    let f : Fm := ⟨S0, H, foot rs, L2.start N vs⟩
    have hlen1 : rs.length = ts.length := by rw [h1.lenR, h1.lenV, h1.lenT]
    have hlen2 : vs.length = ts.length := by rw [h1.lenV, h1.lenT]
    have sta : Sta K f [] (rho0 pars ts N.length) (L2.start N vs) H := by
      refine ⟨S0, rs ++ List.replicate (N.length - ts.length) ⟨.no, none, []⟩, ⟨?_, ?_, ?_, fun k' j i t h => ?_, fun i n t _ => rfl, fun r h => nomatch h⟩⟩
      · rw [List.map_append, h1.ents, List.map_replicate]; rfl
      · rw [List.map_append, h1.outs, List.map_replicate]
        unfold L2.start
        rw [hlen2]
      · rw [List.append_nil]
        have G := h2
        refine ⟨fun m r e => ?_, fun m l r q e1 e2 ne a ha hb => ?_, G.trk, G.fr, G.src, G.tb⟩
        · by_cases hm : m < rs.length
          · rw [List.getElem?_append_left hm] at e
            exact G.slot m r e
          · rw [List.getElem?_append_right (by omega), List.getElem?_replicate] at e
            split at e
            · have e := (Option.some.inj e).symm
              subst e
              exact ⟨rfl, List.nodup_nil, fun a z => nomatch z⟩
            · cases e
        · by_cases hm : m < rs.length
          · rw [List.getElem?_append_left hm] at e1
            by_cases hl : l < rs.length
            · rw [List.getElem?_append_left hl] at e2
              exact G.dj m l r q e1 e2 ne a ha hb
            · rw [List.getElem?_append_right (by omega), List.getElem?_replicate] at e2
              split at e2
              · have e2 := (Option.some.inj e2).symm
                subst e2
                cases hb
              · cases e2
          · rw [List.getElem?_append_right (by omega), List.getElem?_replicate] at e1
            split at e1
            · have e1 := (Option.some.inj e1).symm
              subst e1
              cases ha
            · cases e1
      · exfalso
        have mem := List.mem_of_getElem? h
        unfold rho0 at mem
        rcases List.mem_append.mp mem with mem | mem
        · rw [← h1.ents] at mem
          obtain ⟨r, hr, e⟩ := List.mem_map.mp mem
          have key : ∀ {ps : List Par} {ts : List T} {vs : List V} {rs : List Root}, Pin ps ts vs rs → ∀ r ∈ rs, r.e ≠ .al j i t := by
            intro ps ts vs rs hp
            induction hp with
            | nil => intro r h; cases h
            | @cons p _ _ _ _ _ _ _ _ ih =>
              intro r h
              rcases List.mem_cons.mp h with rfl | h
              · cases p <;> exact fun z => nomatch z
              · exact ih r h
          exact key h1 r hr e
        · rw [List.mem_replicate] at mem
          cases mem.2
    have fin : ∀ n t ρ σ v F H', (match outsOf pars ρ with | some o => R n t o | none => False) → Sta K f ([] ++ [tmp n t v F]) ρ σ H' → Q v H' := by
      intro n t ρ σ v F H' hR hs
      cases q : outsOf pars ρ with
      | none => rw [q] at hR; exact hR.elim
      | some outs =>
        rw [q] at hR
        obtain ⟨S', rsF, s'⟩ := hs
        rw [← s'.e] at q
        obtain ⟨rs', g, p1, p2, p3⟩ := outs_roots (vs := vs) q h1.lenV (fun i r n t a b => by
          have e1 : ρ[i]? = some (.io n t) := by rw [← s'.e, List.getElem?_map, a, ← b]; rfl
          have e2 := s'.io i n t e1
          have e3 : σ[i]? = some r.o := by rw [← s'.o, List.getElem?_map, a]; rfl
          rw [e3] at e2
          have e4 : (L2.start N vs)[i]? = some r.o := e2.symm
          have hio : ∃ (l : Nat), i < pars.length := ⟨0, by
            -- an io slot is a parameter
            rcases Nat.lt_or_ge i pars.length with z | z
            · exact z
            · exfalso
              obtain ⟨v', hv', _⟩ := (s'.good.slot i r (getElem?_app a)).1.own (n := n) (t := t) (by rw [b]; rfl)
              unfold L2.start at e4
              rw [List.getElem?_append_right (by rw [List.length_map, h1.lenV]; exact z), List.getElem?_replicate] at e4
              split at e4
              · rw [hv'] at e4; cases e4
              · cases e4⟩
          obtain ⟨_, hi⟩ := hio
          unfold L2.start at e4
          rw [List.getElem?_append_left (by rw [List.length_map, h1.lenV]; exact hi), List.getElem?_map] at e4
          cases q : vs[i]? with
          | none => rw [q] at e4; cases e4
          | some x => rw [q] at e4; exact (Option.some.inj e4).symm)
        refine h4 n t outs v H' S' rs' F hR p1 ?_
        have G := s'.good
        have Gp : Good K f S' (rs' ++ [tmp n t v F]) H' := by
          refine G.pick (fun m => if m < rs'.length then g m else rsF.length) (fun m r e => ?_) fun m l r q e1 e2 _ _ z => ?_
          · right
            by_cases hm : m < rs'.length
            · rw [if_pos hm]
              rw [List.getElem?_append_left hm] at e
              exact getElem?_app (p2 m r e)
            · rw [if_neg hm]
              have hl := (List.getElem?_eq_some_iff.mp e).1
              rw [List.length_append, List.length_singleton] at hl
              have em : m = rs'.length := by omega
              rw [em, List.getElem?_append_right (Nat.le_refl _), Nat.sub_self] at e
              rw [List.getElem?_append_right (Nat.le_refl _), Nat.sub_self]
              exact e
          · have l1 := (List.getElem?_eq_some_iff.mp e1).1
            have l2 := (List.getElem?_eq_some_iff.mp e2).1
            rw [List.length_append, List.length_singleton] at l1 l2
            have gl : ∀ m, m < rs'.length → g m < rsF.length := fun m hm => (List.getElem?_eq_some_iff.mp (p2 m _ (List.getElem?_eq_getElem hm))).1
            by_cases c1 : m < rs'.length
            · by_cases c2 : l < rs'.length
              · rw [if_pos c1, if_pos c2] at z; exact p3 m l c1 c2 z
              · rw [if_pos c1, if_neg c2] at z; have := gl m c1; omega
            · by_cases c2 : l < rs'.length
              · rw [if_neg c1, if_pos c2] at z; have := gl l c2; omega
              · omega
        exact ⟨Gp.slot, Gp.dj, Gp.trk, Gp.fr, Gp.src, Gp.tb⟩
    refine ht f [] _ _ H (endsOf pars R) _ sta ⟨fun ρ σ H' h s => ?_, fun n t ρ σ v F H' h s => fin n t ρ σ v F H' h s, fun _ _ _ h => h.elim, fun _ _ _ h => h.elim, fun _ _ _ _ _ _ h => h.elim⟩ hw
    obtain ⟨S', rsF, s'⟩ := s
    exact fin 0 .non ρ σ .non [] H' h ⟨S', rsF, s'.pushS .non⟩
end
end TL
set_option Elab.async false
set_option linter.all false
set_option maxRecDepth 100000
namespace TL
open PySem PySem.Spec PyProof.Rows L2

/-! ### calls of defs: pure -/
section
variable {X : Cx} {e a b c : Expr} {es : List Expr} {pos p : Pos} {w wa wb wc : List Ent → (T → Prop) → Prop} {wA : List Ent → (List T → Prop) → Prop}
def wNil : List Ent → (List T → Prop) → Prop := fun _ R => R []
def wCons (wa : List Ent → (T → Prop) → Prop) (wA : List Ent → (List T → Prop) → Prop) : List Ent → (List T → Prop) → Prop := fun ρ R => wa ρ fun x => wA ρ fun xs => R (x :: xs)
theorem tpa_nil : TPA X [] wNil := ⟨⟨_, pa_nil, fun S ρ σ H Q R _ hw hq => hq [] [] H hw (Same.refl H) .nil⟩⟩
theorem tpa_cons (ha : TPE X e wa) (hr : TPA X es wA) (hs : starEach (e :: es) X.env = (false, eval e X.env) :: starEach es X.env := by rfl) : TPA X (e :: es) (wCons wa wA) := by
  obtain ⟨ta, pa, ka⟩ := ha.ok
  obtain ⟨tb, pb, kb⟩ := hr.ok
  refine ⟨⟨_, pa_cons pa pb hs, fun S ρ σ H Q R hr hw hq => ?_⟩⟩
  refine ka S ρ σ H _ _ hr hw fun t v H1 h1 s1 x1 => ?_
  refine kb (fresh S H) ρ σ H1 _ _ (hr.same s1) h1 fun ts vs H2 h2 s2 x2 => ?_
  exact hq (t :: ts) (v :: vs) H2 h2 (s1.trans s2) (Owns.mono (fun _ z => fresh_trans s1 z) (Shrs.cons (shr_up x1 s2) x2))
/-- all parameters are only read -/
def allSh (n : Nat) : List Par := List.replicate n .sh
def shRoots : List T → List V → List Root
  | t :: ts, v :: vs => tmp 0 t v [] :: shRoots ts vs
  | _, _ => []
theorem shRoots_pin {K : PySem.W.Frag} {S : Addr → Prop} {H : Hp} : ∀ {ts : List T} {vs : List V}, Shrs K H S ts vs → Pin (allSh ts.length) ts vs (shRoots ts vs)
  | [], vs, h => by cases h; exact .nil
  | t :: ts, vs, h => by
    obtain ⟨v, r, rfl, a, b⟩ := h.uncons
    exact .cons (p := .sh) (shRoots_pin b)
theorem shRoots_foot : ∀ {ts : List T} {vs : List V}, foot (shRoots ts vs) = []
  | [], _ => rfl
  | _ :: _, [] => rfl
  | t :: ts, v :: vs => by
    show [] ++ foot (shRoots ts vs) = []
    rw [shRoots_foot]; rfl
theorem shRoots_get {K : PySem.W.Frag} {S : Addr → Prop} {H : Hp} : ∀ {ts : List T} {vs : List V}, Shrs K H S ts vs → ∀ (k : Nat) r, (shRoots ts vs)[k]? = some r → SlotR K H S r.e r.o r.F ∧ r.F = []
  | [], vs, h, k, r, e => by
    cases vs <;> (rw [shRoots] at e; simp at e)
    all_goals simp
  | t :: ts, vs, h, k, r, e => by
    obtain ⟨v, q, rfl, a, b⟩ := h.uncons
    cases k with
    | zero =>
      have e := Option.some.inj e
      subst e
      exact ⟨⟨v, rfl, a⟩, rfl⟩
    | succ k => exact shRoots_get b k r (by simpa [shRoots] using e)
theorem good_sh {K : PySem.W.Frag} {S : Addr → Prop} {H : Hp} {ts : List T} {vs : List V} (h : Shrs K H S ts vs) (ht : ∀ a, S a → H a ≠ none) (tb : TbOk H) : Good K (callFm S H (shRoots ts vs)) S (shRoots ts vs) H where
  slot := fun k r e => by
    obtain ⟨a, b⟩ := shRoots_get h k r e
    exact ⟨a, by rw [b]; exact List.nodup_nil, fun x hx => by rw [b] at hx; cases hx⟩
  dj := fun k l r q e1 e2 ne a ha => by
    rw [(shRoots_get h k r e1).2] at ha; cases ha
  trk := ht
  fr := fun a o h1 _ => .inl h1
  src := fun a h => .inl h
  tb := tb
theorem Pout.sh0 : ∀ {n : Nat} {outs : List T} {vs : List V} {rs : List Root}, Pout (allSh n) outs vs rs → outs = [] ∧ rs = []
  | 0, _, _, _, .nil => ⟨rfl, rfl⟩
  | n + 1, _, _, _, h => by
    cases h with
    | sh h => exact Pout.sh0 h
/-- the call of a def that changes nothing -/
theorem spT_pure {K : PySem.W.Frag} {n : Nat} {W : FnT} {S : Addr → Prop} {H : Hp} {ts : List T} {vs : List V} {Q : VK} {E : XK} {R : Nat → T → Prop} (h : Shrs K H S ts vs) (tb : TbOk H) (hn : n = ts.length) (hW : W ts fun m t _ => R m t)
    (hq : ∀ m t v H' S' F, R m t → Same H H' → Own K H' S' m t v F → (∀ a, S' a → fresh S H a ∧ H' a ≠ none) → (∀ a ∈ F, H a = none) → F.Nodup → (∀ a ∈ F, ¬ S' a) → Q v H') : spT K (allSh n) W vs H Q E := by
  subst hn
  have h' : Shrs K H (fun a => S a ∧ H a ≠ none) ts vs := Owns.trk h
  refine ⟨ts, _, _, fun m t _ => R m t, shRoots_pin h', good_sh h' (fun a z => z.2) tb, hW, fun m t outs v H' S' rs' F0 h1 h2 G => ?_⟩
  obtain ⟨_, rfl⟩ := h2.sh0
  have hs : Same H H' := Same.of (fun a o e => G.fr a o e (by show a ∉ foot _; rw [shRoots_foot]; exact fun z => nomatch z)) fun _ => G.tb
  obtain ⟨⟨v', e, own⟩, nd, q⟩ := G.slot 0 _ rfl
  have e := Option.some.inj e
  subst e
  refine hq m t v H' S' F0 h1 hs own (fun a ha => ⟨?_, G.trk a ha⟩) (fun a ha => ?_) nd fun a ha => (q a ha).1
  · rcases G.src a ha with z | z | z
    · exact .inl z.1
    · exact .inr z
    · have z : a ∈ foot (shRoots ts vs) := z
      rw [shRoots_foot] at z; cases z
  · rcases (q a ha).2 with z | z
    · exact z
    · have z : a ∈ foot (shRoots ts vs) := z
      rw [shRoots_foot] at z; cases z
def wCallP (n : Nat) (W : FnT) (wA : List Ent → (List T → Prop) → Prop) : List Ent → (T → Prop) → Prop := fun ρ R => wA ρ fun ts => ts.length = n ∧ W ts fun _ t _ => R t
theorem tp_call {x : Str} {fa : Addr} {fd : FuncData} {qs : List Str} {k n : Nat} {W : FnT} (F : FnOk X.prog X.w X.K X.mg X.base CX0 k fa fd qs (spT X.K (allSh n) W)) (hr : Room k X.A) (hg : Gl X x) (hm : X.mg x = some (.ref fa)) (hk : PySem.W.keepIn X.K (.ref fa) = true) (hb : Binds X.K fd qs [])
    (ha : TPA X (e :: es) wA) (hdb : (x == ("__debug__" : Str)) = false := by decide) (he : starEach (e :: es) X.env = (false, eval e X.env) :: starEach es X.env := by rfl) (hpl : (backTo pos (starEach es X.env)).any (·.1) = false := by rfl) :
    TPE X (.Call (.Name x p) (e :: es) [] pos) (wCallP n W wA) := by
  obtain ⟨ta, pa, ka⟩ := ha.ok
  refine ⟨⟨_, pe_call F hr hg hm hk hb .nil pass0 pa hdb he hpl, fun S ρ σ H Q R hr hw hq => ?_⟩⟩
  refine ka S ρ σ H _ _ hr hw fun ts vs H1 h1 s1 x1 => ?_
  rw [List.append_nil]
  refine spT_pure x1 (s1.tb hr.tb) h1.1.symm h1.2 fun m t v H2 S' F0 h2 s2 own hS hF nd hd => ?_
  refine hq t v H2 h2 (s1.trans s2) (own.shr (fun a z => fresh_trans s1 (hS a z).1) fun a z => ?_)
  exact .inr (s1.free (hF a z))
/-! ### built-in calls by values -/
def wCa (g : List T → (T → Prop) → Prop) (wA : List Ent → (List T → Prop) → Prop) : List Ent → (T → Prop) → Prop := fun ρ R => wA ρ fun ts => g ts R
theorem tp_callB {x : Str} {id : String} {r : List V → Hp → VK → Prop} {g : List T → (T → Prop) → Prop} (hc : CallR X (.builtin id) r) (hgv : CaT X.K r g) (hg : Gl X x) (hm : X.mg x = none) (hv : bootBuiltins x = some (.builtin id)) (ha : TPA X (e :: es) wA) (hn : x ≠ "__name__" := by decide) (hdb : (x == ("__debug__" : Str)) = false := by decide)
    (he : starEach (e :: es) X.env = (false, eval e X.env) :: starEach es X.env := by rfl) (hpl : (backTo pos (starEach es X.env)).any (·.1) = false := by rfl) : TPE X (.Call (.Name x p) (e :: es) [] pos) (wCa g wA) := by
  obtain ⟨ta, pa, ka⟩ := ha.ok
  refine ⟨⟨_, pe_callB hc hg hm hv pa hn hdb he hpl, fun S ρ σ H Q R hr hw hq => ?_⟩⟩
  refine ka S ρ σ H _ _ hr hw fun ts vs H1 h1 s1 x1 => ?_
  exact hgv (fresh S H) H1 vs ts Q R x1 h1 fun z v H2 h2 s2 x2 => hq z v H2 h2 (s1.trans s2) (shr_dn x2 s1)
theorem tp_callTy {x : Str} {id : String} {r : List V → Hp → VK → Prop} {g : List T → (T → Prop) → Prop} (hc : CallR X (.type id) r) (hgv : CaT X.K r g) (hg : Gl X x) (hm : X.mg x = none) (hv : bootBuiltins x = some (.type id)) (ha : TPA X (e :: es) wA) (hn : x ≠ "__name__" := by decide) (hdb : (x == ("__debug__" : Str)) = false := by decide)
    (he : starEach (e :: es) X.env = (false, eval e X.env) :: starEach es X.env := by rfl) (hpl : (backTo pos (starEach es X.env)).any (·.1) = false := by rfl) : TPE X (.Call (.Name x p) (e :: es) [] pos) (wCa g wA) := by
  obtain ⟨ta, pa, ka⟩ := ha.ok
  refine ⟨⟨_, pe_callTy hc hg hm hv pa hn hdb he hpl, fun S ρ σ H Q R hr hw hq => ?_⟩⟩
  refine ka S ρ σ H _ _ hr hw fun ts vs H1 h1 s1 x1 => ?_
  exact hgv (fresh S H) H1 vs ts Q R x1 h1 fun z v H2 h2 s2 x2 => hq z v H2 h2 (s1.trans s2) (shr_dn x2 s1)
section
variable {K : PySem.W.Frag}
theorem shrs1 {S : Addr → Prop} {H : Hp} {t : T} {vs : List V} (h : Shrs K H S [t] vs) : ∃ v, vs = [v] ∧ Shr K H S t v := by
  obtain ⟨v, r, rfl, a, b⟩ := h.uncons
  cases b
  exact ⟨v, rfl, a⟩
theorem shrs2 {S : Addr → Prop} {H : Hp} {t u : T} {vs : List V} (h : Shrs K H S [t, u] vs) : ∃ v v2, vs = [v, v2] ∧ Shr K H S t v ∧ Shr K H S u v2 := by
  obtain ⟨v, r, rfl, a, b⟩ := h.uncons
  obtain ⟨v2, rfl, b2⟩ := shrs1 b
  exact ⟨v, v2, rfl, a, b2⟩
def gLen : List T → (T → Prop) → Prop := fun ts R => match ts with
  | [.nd .lst us] => R (.int us.length)
  | [.tup us] => R (.int us.length)
  | [.scr ns] => R (.int ns.length)
  | [.ctp us] => R (.int us.length)
  | _ => False
theorem caT_len : CaT K (fun xs H Q => ∃ p ys, xs = [.ref p] ∧ (SqL K H p ys ∨ SqT K H p ys) ∧ Q (.int ys.length) H) gLen := by
  intro S H xs ts Q R h hg hq
  cases ts with
  | nil => exact hg.elim
  | cons t ts =>
    cases ts with
    | cons _ _ => cases t using T.cs <;> exact hg.elim
    | nil =>
      obtain ⟨v, rfl, a⟩ := shrs1 h
      cases t using T.cs <;> first | exact hg.elim | skip
      · obtain ⟨p, vs, rfl, q, r⟩ := shr_tup a
        refine ⟨p, vs, rfl, .inr q, hq _ _ _ hg (Same.refl H) ?_⟩
        rw [r.length]; exact .int _
      · obtain ⟨p, vs, rfl, q, r⟩ := shr_lst a
        refine ⟨p, vs, rfl, .inl q.sq, hq _ _ _ hg (Same.refl H) ?_⟩
        rw [r.length]; exact .int _
      · obtain ⟨p, rfl, q⟩ := shr_scr a
        refine ⟨p, _, rfl, .inl q.sq, hq _ _ _ hg (Same.refl H) ?_⟩
        rw [List.length_map]; exact .int _
      · obtain ⟨p, vs, rfl, q, r⟩ := shr_ctp a
        refine ⟨p, vs, rfl, .inr q, hq _ _ _ hg (Same.refl H) ?_⟩
        rw [r.length]; exact .int _
def gInts (g : List Int → (T → Prop) → Prop) : List T → (T → Prop) → Prop := fun ts R => match ts with
  | [.nd .lst us] => ∃ is, us = is.map T.int ∧ g is R
  | _ => False
theorem gInts_inv {g : List Int → (T → Prop) → Prop} {S : Addr → Prop} {H : Hp} {ts : List T} {xs : List V} {R : T → Prop} (h : Shrs K H S ts xs) (hg : gInts g ts R) : ∃ a is, xs = [.ref a] ∧ SqL K H a (is.map V.int) ∧ g is R := by
  cases ts with
  | nil => exact hg.elim
  | cons t ts =>
    cases ts with
    | cons _ _ => cases t using T.cs <;> exact hg.elim
    | nil =>
      obtain ⟨v, rfl, a⟩ := shrs1 h
      cases t using T.cs <;> first | exact hg.elim | skip
      obtain ⟨is, rfl, g2⟩ := hg
      obtain ⟨p, vs, rfl, q, r⟩ := shr_lst a
      have e := r.ints
      subst e
      exact ⟨p, is, rfl, q.sq, g2⟩
theorem caT_sum : CaT K (rSum K) (gInts fun is R => R (.int is.sum)) := by
  intro S H xs ts Q R h hg hq
  obtain ⟨a, is, rfl, q, g⟩ := gInts_inv h hg
  exact ⟨a, is, rfl, q, hq _ _ _ g (Same.refl H) (.int _)⟩
theorem caT_max : CaT K (rMax K) (gInts fun is R => 0 < is.length ∧ ∀ m, m ∈ is → (∀ y, y ∈ is → y ≤ m) → R (.int m)) := by
  intro S H xs ts Q R h hg hq
  obtain ⟨a, is, rfl, q, g⟩ := gInts_inv h hg
  exact ⟨a, is, rfl, q, g.1, fun m h1 h2 => hq _ _ _ (g.2 m h1 h2) (Same.refl H) (.int _)⟩
theorem caT_min : CaT K (rMin K) (gInts fun is R => 0 < is.length ∧ ∀ m, m ∈ is → (∀ y, y ∈ is → m ≤ y) → R (.int m)) := by
  intro S H xs ts Q R h hg hq
  obtain ⟨a, is, rfl, q, g⟩ := gInts_inv h hg
  exact ⟨a, is, rfl, q, g.1, fun m h1 h2 => hq _ _ _ (g.2 m h1 h2) (Same.refl H) (.int _)⟩
def gII (g : Int → Int → Int) : List T → (T → Prop) → Prop := fun ts R => match ts with
  | [.int i, .int j] => R (.int (g i j))
  | _ => False
theorem caT_ii {g : Int → Int → Int} : CaT K (fun xs H Q => ∃ i j, xs = [.int i, .int j] ∧ Q (.int (g i j)) H) (gII g) := by
  intro S H xs ts Q R h hg hq
  unfold gII at hg
  split at hg
  · obtain ⟨v, v2, rfl, a, b⟩ := shrs2 h
    exact ⟨_, _, by rw [shr_int a, shr_int b], hq _ _ _ hg (Same.refl H) (.int _)⟩
  · exact hg.elim
def gI (g : Int → Int) : List T → (T → Prop) → Prop := fun ts R => match ts with
  | [.int i] => R (.int (g i))
  | _ => False
theorem caT_i {g : Int → Int} : CaT K (fun xs H Q => ∃ i, xs = [.int i] ∧ Q (.int (g i)) H) (gI g) := by
  intro S H xs ts Q R h hg hq
  unfold gI at hg
  split at hg
  · obtain ⟨v, rfl, a⟩ := shrs1 h
    exact ⟨_, by rw [shr_int a], hq _ _ _ hg (Same.refl H) (.int _)⟩
  · exact hg.elim
def gInt1 : List T → (T → Prop) → Prop := fun ts R => match ts with
  | [.int i] => R (.int i)
  | [.bl k] => R (.int (if k then 1 else 0))
  | _ => False
theorem caT_int1 : CaT K (fun xs H Q => (∃ i, xs = [.int i] ∧ Q (.int i) H) ∨ ∃ k, xs = [.bl k] ∧ Q (.int (if k then 1 else 0)) H) gInt1 := by
  intro S H xs ts Q R h hg hq
  unfold gInt1 at hg
  split at hg
  · obtain ⟨v, rfl, a⟩ := shrs1 h
    exact .inl ⟨_, by rw [shr_int a], hq _ _ _ hg (Same.refl H) (.int _)⟩
  · obtain ⟨v, rfl, a⟩ := shrs1 h
    exact .inr ⟨_, by rw [shr_bl a], hq _ _ _ hg (Same.refl H) (.int _)⟩
  · exact hg.elim
/-! ### items -/
def gIx : F2 := fun t u R => match t, u with
  | .nd .lst ts, .int i => match atI ts i with
    | some x => R x
    | none => False
  | .tup ts, .int i => match atI ts i with
    | some x => R x
    | none => False
  | .scr ns, .int i => match atI ns i with
    | some x => R (.int x)
    | none => False
  | .ctp ts, .int i => match atI ts i with
    | some x => R x
    | none => False
  | _, _ => False
theorem shrs_at {S : Addr → Prop} {H : Hp} {ts : List T} {vs : List V} {i : Int} {t : T} (h : Shrs K H S ts vs) (e : atI ts i = some t) : ∃ v, atI vs i = some v ∧ Shr K H S t v := by
  unfold atI at e ⊢
  rw [← h.length]
  cases q : ixN ts.length i with
  | none => rw [q] at e; cases e
  | some j =>
    rw [q] at e
    exact h.get e
theorem at_map {α β : Type} {f : α → β} {xs : List α} {i : Int} {x : α} (e : atI xs i = some x) : atI (xs.map f) i = some (f x) := by
  unfold atI at e ⊢
  rw [List.length_map]
  cases q : ixN xs.length i with
  | none => rw [q] at e; cases e
  | some j =>
    rw [q] at e
    show (xs.map f)[j]? = _
    rw [List.getElem?_map, show xs[j]? = some x from e]; rfl
theorem ixT : OpT K (rIx K) gIx := by
  intro S H x y t u Q R h1 h2 hg hq
  cases t using T.cs <;> first | exact hg.elim | skip
  · cases u using T.cs <;> first | exact hg.elim | skip
    obtain ⟨p, vs, rfl, q, r⟩ := shr_tup h1
    rw [shr_int h2]
    simp only [gIx] at hg
    split at hg
    · rename_i e
      obtain ⟨v, e2, r2⟩ := shrs_at r e
      exact .inr (.inl ⟨p, vs, _, v, rfl, rfl, q, e2, hq _ _ _ hg (Same.refl H) (r2.mono fun _ => .inl)⟩)
    · exact hg.elim
  · cases u using T.cs <;> first | exact hg.elim | skip
    obtain ⟨p, vs, rfl, q, r⟩ := shr_lst h1
    rw [shr_int h2]
    simp only [gIx] at hg
    split at hg
    · rename_i e
      obtain ⟨v, e2, r2⟩ := shrs_at r e
      exact .inl ⟨p, vs, _, v, rfl, rfl, q.sq, e2, hq _ _ _ hg (Same.refl H) (r2.mono fun _ => .inl)⟩
    · exact hg.elim
  · cases u using T.cs <;> first | exact hg.elim | skip
    obtain ⟨p, rfl, q⟩ := shr_scr h1
    rw [shr_int h2]
    simp only [gIx] at hg
    split at hg
    · rename_i e
      exact .inl ⟨p, _, _, _, rfl, rfl, q.sq, at_map e, hq _ _ _ hg (Same.refl H) (.int _)⟩
    · exact hg.elim
  · cases u using T.cs <;> first | exact hg.elim | skip
    obtain ⟨p, vs, rfl, q, r⟩ := shr_ctp h1
    rw [shr_int h2]
    simp only [gIx] at hg
    split at hg
    · rename_i e
      obtain ⟨v, e2, r2⟩ := shrs_at r e
      exact .inr (.inl ⟨p, vs, _, v, rfl, rfl, q, e2, hq _ _ _ hg (Same.refl H) (r2.mono fun _ => .inl)⟩)
    · exact hg.elim
end
theorem tp_ix (ha : TPE X a wa) (hb : TPE X b wb) (hs : PlainIx b) : TPE X (.Subscript a b pos) (w2 gIx wa wb) := by
  obtain ⟨ta, pa, ka⟩ := ha.ok
  obtain ⟨tb, pb, kb⟩ := hb.ok
  exact ⟨⟨_, pe_ix ix_seq pa pb hs, fun S ρ σ H Q R hr hw hq => two ka kb ixT hr hw hq⟩⟩
/-! ### and, or, not, if-else -/
variable {wt wt2 : List Ent → (Bool → Prop) → Prop} {rest : List Expr}
def wAnd (w1 w2 : List Ent → (Bool → Prop) → Prop) : List Ent → (Bool → Prop) → Prop := fun ρ R => w1 ρ fun b => if b = true then w2 ρ R else R false
def wOr (w1 w2 : List Ent → (Bool → Prop) → Prop) : List Ent → (Bool → Prop) → Prop := fun ρ R => w1 ρ fun b => if b = true then R true else w2 ρ R
def wNot (w1 : List Ent → (Bool → Prop) → Prop) : List Ent → (Bool → Prop) → Prop := fun ρ R => w1 ρ fun b => R (!b)
theorem TPW.pt (h : TPW X e wt) : TPT X e wt := by
  obtain ⟨ta, pa, ka⟩ := h.ok
  exact ⟨⟨_, pa.pt, ka⟩⟩
theorem tpw_and1 (ha : TPT X a wt) : TPW X (.BoolOp .And [a] pos) wt := by
  obtain ⟨ta, pa, ka⟩ := ha.ok
  exact ⟨⟨_, pw_and1 pa, ka⟩⟩
theorem tpw_or1 (ha : TPT X a wt) : TPW X (.BoolOp .Or [a] pos) wt := by
  obtain ⟨ta, pa, ka⟩ := ha.ok
  exact ⟨⟨_, pw_or1 pa, ka⟩⟩
theorem tpw_and (ha : TPT X a wt) (hb : TPW X (.BoolOp .And (b :: rest) pos) wt2) : TPW X (.BoolOp .And (a :: b :: rest) pos) (wAnd wt wt2) := by
  obtain ⟨ta, pa, ka⟩ := ha.ok
  obtain ⟨tb, pb, kb⟩ := hb.ok
  refine ⟨⟨_, pw_and pa pb, fun S ρ σ H Q R hr hw hq => ?_⟩⟩
  refine ka S ρ σ H _ _ hr hw fun k H1 h1 s1 => ?_
  cases k with
  | true => exact kb (fresh S H) ρ σ H1 _ _ (hr.same s1) h1 fun k2 H2 h2 s2 => hq k2 H2 h2 (s1.trans s2)
  | false => exact hq false H1 h1 s1
theorem tpw_or (ha : TPT X a wt) (hb : TPW X (.BoolOp .Or (b :: rest) pos) wt2) : TPW X (.BoolOp .Or (a :: b :: rest) pos) (wOr wt wt2) := by
  obtain ⟨ta, pa, ka⟩ := ha.ok
  obtain ⟨tb, pb, kb⟩ := hb.ok
  refine ⟨⟨_, pw_or pa pb, fun S ρ σ H Q R hr hw hq => ?_⟩⟩
  refine ka S ρ σ H _ _ hr hw fun k H1 h1 s1 => ?_
  cases k with
  | true => exact hq true H1 h1 s1
  | false => exact kb (fresh S H) ρ σ H1 _ _ (hr.same s1) h1 fun k2 H2 h2 s2 => hq k2 H2 h2 (s1.trans s2)
theorem tpt_not (ha : TPT X a wt) : TPT X (.UnaryOp .Not a pos) (wNot wt) := by
  obtain ⟨ta, pa, ka⟩ := ha.ok
  refine ⟨⟨_, pt_not pa, fun S ρ σ H Q R hr hw hq => ?_⟩⟩
  exact ka S ρ σ H _ _ hr hw fun k H1 h1 s1 => hq (!k) H1 h1 s1
/-- .. as values -/
def wAndV (wa wb : List Ent → (T → Prop) → Prop) : List Ent → (T → Prop) → Prop := fun ρ R => wa ρ fun x => asB x fun b => if b = true then wb ρ R else R (.bl false)
def wOrV (wa wb : List Ent → (T → Prop) → Prop) : List Ent → (T → Prop) → Prop := fun ρ R => wa ρ fun x => asB x fun b => if b = true then R (.bl true) else wb ρ R
def wNotV (wa : List Ent → (T → Prop) → Prop) : List Ent → (T → Prop) → Prop := fun ρ R => wa ρ fun x => asB x fun b => R (.bl (!b))
theorem tp_one {op : BoolOp} (ha : TPE X a wa) : TPE X (.BoolOp op [a] pos) wa := by
  obtain ⟨ta, pa, ka⟩ := ha.ok
  exact ⟨⟨_, pe_one pa, ka⟩⟩
theorem tp_and (ha : TPE X a wa) (hb : TPE X (.BoolOp .And (b :: rest) pos) wb) : TPE X (.BoolOp .And (a :: b :: rest) pos) (wAndV wa wb) := by
  obtain ⟨ta, pa, ka⟩ := ha.ok
  obtain ⟨tb, pb, kb⟩ := hb.ok
  refine ⟨⟨_, pe_and pa pb, fun S ρ σ H Q R hr hw hq => ?_⟩⟩
  refine ka S ρ σ H _ _ hr hw fun t v H1 h1 s1 x1 => ?_
  obtain ⟨k, e, h⟩ := asB_ok x1 h1
  refine ⟨k, e, ?_⟩
  cases k with
  | true => exact kb (fresh S H) ρ σ H1 _ _ (hr.same s1) h fun t2 v2 H2 h2 s2 x2 => hq t2 v2 H2 h2 (s1.trans s2) (shr_dn x2 s1)
  | false => exact hq _ _ H1 h s1 (.bl _)
theorem tp_or (ha : TPE X a wa) (hb : TPE X (.BoolOp .Or (b :: rest) pos) wb) : TPE X (.BoolOp .Or (a :: b :: rest) pos) (wOrV wa wb) := by
  obtain ⟨ta, pa, ka⟩ := ha.ok
  obtain ⟨tb, pb, kb⟩ := hb.ok
  refine ⟨⟨_, pe_or pa pb, fun S ρ σ H Q R hr hw hq => ?_⟩⟩
  refine ka S ρ σ H _ _ hr hw fun t v H1 h1 s1 x1 => ?_
  obtain ⟨k, e, h⟩ := asB_ok x1 h1
  refine ⟨k, e, ?_⟩
  cases k with
  | true => exact hq _ _ H1 h s1 (.bl _)
  | false => exact kb (fresh S H) ρ σ H1 _ _ (hr.same s1) h fun t2 v2 H2 h2 s2 x2 => hq t2 v2 H2 h2 (s1.trans s2) (shr_dn x2 s1)
theorem tp_not (ha : TPE X a wa) : TPE X (.UnaryOp .Not a pos) (wNotV wa) := by
  obtain ⟨ta, pa, ka⟩ := ha.ok
  refine ⟨⟨_, pe_not pa, fun S ρ σ H Q R hr hw hq => ?_⟩⟩
  refine ka S ρ σ H _ _ hr hw fun t v H1 h1 s1 x1 => ?_
  obtain ⟨k, e, h⟩ := asB_ok x1 h1
  exact ⟨k, e, hq _ _ H1 h s1 (.bl _)⟩
def wIf (wt : List Ent → (Bool → Prop) → Prop) (wa wb : List Ent → (T → Prop) → Prop) : List Ent → (T → Prop) → Prop := fun ρ R => wt ρ fun k => if k = true then wa ρ R else wb ρ R
theorem tp_if (hc : TPT X c wt) (ha : TPE X a wa) (hb : TPE X b wb) : TPE X (.IfExp c a b pos) (wIf wt wa wb) := by
  obtain ⟨tc, pc, kc⟩ := hc.ok
  obtain ⟨ta, pa, ka⟩ := ha.ok
  obtain ⟨tb, pb, kb⟩ := hb.ok
  refine ⟨⟨_, pe_ifExp pc pa pb, fun S ρ σ H Q R hr hw hq => ?_⟩⟩
  refine kc S ρ σ H _ _ hr hw fun k H1 h1 s1 => ?_
  cases k with
  | true => exact ka (fresh S H) ρ σ H1 _ _ (hr.same s1) h1 fun t2 v2 H2 h2 s2 x2 => hq t2 v2 H2 h2 (s1.trans s2) (shr_dn x2 s1)
  | false => exact kb (fresh S H) ρ σ H1 _ _ (hr.same s1) h1 fun t2 v2 H2 h2 s2 x2 => hq t2 v2 H2 h2 (s1.trans s2) (shr_dn x2 s1)
end
end TL
set_option Elab.async false
set_option linter.all false
set_option maxRecDepth 100000
namespace TL
open PySem PySem.Spec PyProof.Rows L2

/-! ### isinstance of a built-in class -/
inductive TyN where
  | int | bool | str | list | tup | dict
def TyN.nm : TyN → String
  | .int => "int"
  | .bool => "bool"
  | .str => "str"
  | .list => "list"
  | .tup => "tuple"
  | .dict => "dict"
def isT : TyN → T → Bool
  | .int, .int _ => true
  | .int, .bl _ => true
  | .bool, .bl _ => true
  | .str, .str _ => true
  | .list, .nd .lst _ => true
  | .list, .scr _ => true
  | .tup, .tup _ => true
  | .tup, .ctp _ => true
  | .dict, .nd (.dK _) _ => true
  | .dict, .nd (.dT _) _ => true
  | _, _ => false
def T.tyn : T → Option String
  | .non => some "NoneType"
  | .bl _ => some "bool"
  | .int _ => some "int"
  | .str _ => some "str"
  | .tup _ => some "tuple"
  | .ctp _ => some "tuple"
  | .nd .lst _ => some "list"
  | .scr _ => some "list"
  | .nd (.dK _) _ => some "dict"
  | .nd _ _ => none
  | .opq _ _ => none
  | .exc _ _ _ _ => none
theorem kit_isT : ∀ (t : T) (n : String) (ty : TyN), t.tyn = some n → kitB n ty.nm = some (isT ty t) := by
  intro t n ty h
  cases t using T.cs <;> (first | (cases h; done) | skip) <;> (have h := Option.some.inj h; subst h; cases ty <;> first | exact (show kitB _ _ = some true from by decide +kernel) | exact (show kitB _ _ = some false from by decide +kernel))
section
variable {K : PySem.W.Frag} {S : Addr → Prop} {H : Hp}
theorem shr_ty {t : T} {v : V} {n : String} (h : Shr K H S t v) (hn : t.tyn = some n) : TyX K H v (.type n) := by
  cases t using T.cs with
  | non => rw [shr_non h]; cases hn; exact .base .non
  | bl b => rw [shr_bl h]; cases hn; exact .base (.bl b)
  | int i => rw [shr_int h]; cases hn; exact .base (.int i)
  | str x => rw [shr_str h]; cases hn; exact .base (.str x)
  | tup ts =>
    obtain ⟨a, vs, rfl, q, _⟩ := shr_tupR h
    cases hn
    exact .base (.tup q)
  | ctp ts =>
    obtain ⟨a, vs, rfl, q, _⟩ := shr_ctp h
    cases hn
    rcases q with (q | ⟨o, q⟩) | ⟨o, its, m, q, c, _⟩
    · exact .base (.tup q)
    · exact .fTuple q
    · exact .kTuple q c
  | lst ts =>
    obtain ⟨a, vs, rfl, q, _⟩ := shr_lst h
    cases hn
    exact .base (.lst q.1)
  | dK ks ts =>
    obtain ⟨a, vs, rfl, ⟨o, i, q⟩, _⟩ := shr_nd h
    obtain ⟨_, _, rfl⟩ := i
    cases hn
    rcases q with ⟨q, _⟩ | ⟨_, ob, q⟩
    · exact .base (.dK q)
    · exact .fDict q
  | dT _ => cases hn
  | ins _ _ _ => cases hn
  | scr ns =>
    obtain ⟨a, rfl, q⟩ := shr_scr h
    cases hn
    rcases q with ⟨o, q⟩ | ⟨o, its, m, q, c, _⟩
    · exact .base (.frz q)
    · exact .kList q c
  | opq _ _ => cases hn
  | exc _ _ _ _ => cases hn
end
section
variable {X : Cx} {e a b c : Expr} {es : List Expr} {pos p p2 : Pos} {w wa wb wc : List Ent → (T → Prop) → Prop} {wA : List Ent → (List T → Prop) → Prop}
def wIsi (ty : TyN) (wa : List Ent → (T → Prop) → Prop) : List Ent → (T → Prop) → Prop := fun ρ R => wa ρ fun t => t.tyn.isSome = true ∧ R (.bl (isT ty t))
theorem tp_isi {y : Str} (ty : TyN) (hg : Gl X "isinstance") (hm : X.mg "isinstance" = none) (hg2 : Gl X y) (hm2 : X.mg y = none) (hy : bootBuiltins y = some (.type ty.nm)) (ha : TPE X a wa) (hv : bootBuiltins "isinstance" = some (.builtin "isinstance") := by decide +kernel) (hn : y ≠ "__name__" := by decide) (hdb : (y == ("__debug__" : Str)) = false := by decide)
    (he : starEach [a, .Name y p2] X.env = (false, eval a X.env) :: starEach [.Name y p2] X.env := by rfl) (he2 : starEach [.Name y p2] X.env = (false, eval (.Name y p2) X.env) :: starEach [] X.env := by rfl)
    (hpl : (backTo pos (starEach [.Name y p2] X.env)).any (·.1) = false := by rfl) : TPE X (.Call (.Name "isinstance" p) [a, .Name y p2] [] pos) (wIsi ty wa) := by
  obtain ⟨ta, pa, ka⟩ := ha.ok
  refine ⟨⟨_, pe_callB call_isi hg hm hv (pa_cons pa (pa_cons (pe_bltn (v := .ty ty.nm) hg2 hm2 hy rfl hn hdb) pa_nil he2) he) (by decide) (by decide) he hpl, fun S ρ σ H Q R hr hw hq => ?_⟩⟩
  refine ka S ρ σ H _ _ hr hw fun t v H1 h1 s1 x1 => ?_
  obtain ⟨h1, h2⟩ := h1
  cases q : t.tyn with
  | none => rw [q] at h1; cases h1
  | some n => exact ⟨v, .ty ty.nm, .type n, .type ty.nm, isT ty t, rfl, .ty _, shr_ty x1 q, kit_ty (kit_isT t n ty q), hq _ _ H1 h2 s1 (.bl _)⟩
/-! ### displays, slices, joined lists as pure values -/
def wTup (wA : List Ent → (List T → Prop) → Prop) : List Ent → (T → Prop) → Prop := fun ρ R => wA ρ fun ts => ts.length ≤ 1000 ∧ R (.tup ts)
theorem tp_tup {k : Nat} (ha : TPA X es wA) (hl : es.length ≤ 1000 := by decide) : TPE X (.Tuple es k pos) (wTup wA) := by
  obtain ⟨ta, pa, ka⟩ := ha.ok
  refine ⟨⟨_, pe_tup pa, fun S ρ σ H Q R hr hw hq => ?_⟩⟩
  refine ka S ρ σ H _ _ hr hw fun ts vs H1 h1 s1 x1 => ?_
  have hs : ∀ {p : Addr} {o : HO} (hp : H1 p = none) (no : NTbl o := by first | exact nt_lst | exact nt_tup | exact nt_dK | exact nt_dT), Same H1 (upd H1 p o) := fun hp no => Same.new hp no
  refine ⟨Nat.le_of_lt (small1000 (by rw [← x1.length]; exact h1.1)), fun p hp => hq (.tup ts) _ _ h1.2 (s1.trans (hs hp)) ?_⟩
  exact .tup0 upd_same (Owns.keep (fun _ z => z) x1 (.same (hs hp)))
def wLst (wA : List Ent → (List T → Prop) → Prop) : List Ent → (T → Prop) → Prop := fun ρ R => wA ρ fun ts => ts.length ≤ 1000 ∧ R (.lst ts)
theorem tp_lst (ha : TPA X es wA) : TPE X (.List es pos) (wLst wA) := by
  obtain ⟨ta, pa, ka⟩ := ha.ok
  refine ⟨⟨_, pe_lst pa, fun S ρ σ H Q R hr hw hq => ?_⟩⟩
  refine ka S ρ σ H _ _ hr hw fun ts vs H1 h1 s1 x1 => ?_
  have hs : ∀ {p : Addr} {o : HO} (hp : H1 p = none) (no : NTbl o := by first | exact nt_lst | exact nt_tup | exact nt_dK | exact nt_dT), Same H1 (upd H1 p o) := fun hp no => Same.new hp no
  refine ⟨Nat.le_of_lt (small1000 (by rw [← x1.length]; exact h1.1)), fun p hp => hq (.lst ts) _ _ h1.2 (s1.trans (hs hp)) ?_⟩
  exact .sls ⟨upd_same, .inr (s1.free hp)⟩ (Owns.keep (fun _ z => z) x1 (.same (hs hp)))
def cutT (ts : List T) (lo hi : Option Int) : List T := (ts.drop (HT.sIx ts.length 0 lo)).take (HT.sIx ts.length ts.length hi - HT.sIx ts.length 0 lo)
theorem shrs_cut {K : PySem.W.Frag} {S : Addr → Prop} {H : Hp} {ts : List T} {vs : List V} {lo hi : Option Int} (h : Shrs K H S ts vs) : Shrs K H S (cutT ts lo hi) (cutV vs lo hi) := by
  unfold cutT cutV
  rw [h.length]
  exact (h.drop _).take _
structure TPO (X : Cx) (o : Option Expr) (w : List Ent → (Option Int → Prop) → Prop) : Prop where
  ok : ∃ tt : _, PO X o tt ∧ ∀ (S : Addr → Prop) (ρ : List Ent) (σ : St) (H : Hp) (Q : Option Int → Hp → Prop) (R : Option Int → Prop), RdS X.K S ρ σ H → w ρ R → (∀ i H', R i → Same H H' → Q i H') → tt σ H Q
def oNon : List Ent → (Option Int → Prop) → Prop := fun _ R => R none
theorem tpo_none : TPO X none (oNon) := ⟨⟨_, po_none, fun S ρ σ H Q R _ hw hq => hq none H hw (Same.refl H)⟩⟩
def oSom (wa : List Ent → (T → Prop) → Prop) : List Ent → (Option Int → Prop) → Prop := fun ρ R => wa ρ fun t => match t with | .int i => R (some i) | _ => False
theorem tpo_some (ha : TPE X a wa) : TPO X (some a) (oSom wa) := by
  obtain ⟨ta, pa, ka⟩ := ha.ok
  refine ⟨⟨_, po_some pa, fun S ρ σ H Q R hr hw hq => ?_⟩⟩
  refine ka S ρ σ H _ _ hr hw fun t v H1 h1 s1 x1 => ?_
  cases t using T.cs <;> first | exact h1.elim | skip
  exact ⟨_, shr_int x1, hq _ H1 h1 s1⟩
def wSl (wa : List Ent → (T → Prop) → Prop) (wl wh : List Ent → (Option Int → Prop) → Prop) : List Ent → (List T → Option Int → Option Int → Prop) → Prop := fun ρ R => wa ρ fun t => wl ρ fun lo => wh ρ fun hi => match t with
  | .nd .lst ts => R ts lo hi
  | _ => False
variable {lo hi : Option Expr} {wl wh : List Ent → (Option Int → Prop) → Prop}
def wSlice (wa : List Ent → (T → Prop) → Prop) (wl : List Ent → (Option Int → Prop) → Prop) (wh : List Ent → (Option Int → Prop) → Prop) : List Ent → (T → Prop) → Prop := fun ρ R => wSl wa wl wh ρ fun ts l h => R (.lst (cutT ts l h))
theorem tp_slice (ha : TPE X a wa) (hl : TPO X lo wl) (hh : TPO X hi wh) : TPE X (.Subscript a (.Slice lo hi none p2) pos) (wSlice wa wl wh) := by
  obtain ⟨ta, pa, ka⟩ := ha.ok
  obtain ⟨tl, pl, kl⟩ := hl.ok
  obtain ⟨th, ph, kh⟩ := hh.ok
  refine ⟨⟨_, pe_slice sl_list pa pl ph, fun S ρ σ H Q R hr hw hq => ?_⟩⟩
  refine ka S ρ σ H _ _ hr hw fun t v H1 h1 s1 x1 => ?_
  refine kl (fresh S H) ρ σ H1 _ _ (hr.same s1) h1 fun l H2 h2 s2 => ?_
  refine kh (fresh (fresh S H) H1) ρ σ H2 _ _ ((hr.same s1).same s2) h2 fun h H3 h3 s3 => ?_
  cases t using T.cs <;> first | exact h3.elim | skip
  have s13 := s2.trans s3
  obtain ⟨p0, vs, rfl, q, r⟩ := shr_lst (x1.keep (fun _ z => z) (.same s13))
  have hs : ∀ {p : Addr} {o : HO} (hp : H3 p = none) (no : NTbl o := by first | exact nt_lst | exact nt_tup | exact nt_dK | exact nt_dT), Same H3 (upd H3 p o) := fun hp no => Same.new hp no
  refine ⟨p0, vs, rfl, q.sq, fun p hp => hq _ _ _ h3 ((s1.trans s13).trans (hs hp)) ?_⟩
  exact .sls ⟨upd_same, .inr ((s1.trans s13).free hp)⟩ (Owns.keep (fun _ z => z) (shrs_cut r) (.same (hs hp)))
def gCat : F2 := fun t u R => match t, u with
  | .nd .lst ts, .nd .lst us => ts.length + us.length ≤ 1000000 ∧ R (.lst (ts ++ us))
  | _, _ => False
theorem million : (1000000 : Nat) ≤ sizeLine := by rw [sizeLine_eq]; decide
theorem opT_cat {K : PySem.W.Frag} : OpT K rCat gCat := by
  intro S H x y t u Q R h1 h2 hg hq
  cases t using T.cs <;> first | exact hg.elim | skip
  cases u using T.cs <;> first | exact hg.elim | skip
  obtain ⟨a, vs, rfl, q, r⟩ := shr_lst h1
  obtain ⟨b, ws, rfl, q2, r2⟩ := shr_lst h2
  have hs : ∀ {p : Addr} {o : HO} (hp : H p = none) (no : NTbl o := by first | exact nt_lst | exact nt_tup | exact nt_dK | exact nt_dT), Same H (upd H p o) := fun hp no => Same.new hp no
  refine ⟨a, b, vs, ws, rfl, rfl, q.1, q2.1, by rw [← r.length, ← r2.length]; exact Nat.le_trans hg.1 million, fun p hp => hq _ _ _ hg.2 (hs hp) ?_⟩
  exact .sls ⟨upd_same, .inr hp⟩ ((Owns.keep (fun _ z => z) (r.append r2) (.same (hs hp))).mono fun _ => .inl)
theorem shrs_rep {K : PySem.W.Frag} {S : Addr → Prop} {H : Hp} {ts : List T} {vs : List V} (h : Shrs K H S ts vs) : ∀ n : Nat, Shrs K H S (List.replicate n ts).flatten (List.replicate n vs).flatten
  | 0 => .nil
  | n + 1 => by
    rw [List.replicate_succ, List.replicate_succ, List.flatten_cons, List.flatten_cons]
    exact h.append (shrs_rep h n)
def gRep : F2 := fun t u R => match t, u with
  | .nd .lst ts, .int k => -(2 ^ 63) ≤ k ∧ k < 2 ^ 63 ∧ ts.length * k.toNat ≤ 1000000 ∧ R (.lst (List.replicate k.toNat ts).flatten)
  | _, _ => False
theorem opT_rep {K : PySem.W.Frag} : OpT K rRep gRep := by
  intro S H x y t u Q R h1 h2 hg hq
  cases t using T.cs <;> first | exact hg.elim | skip
  cases u using T.cs <;> first | exact hg.elim | skip
  obtain ⟨a, vs, rfl, q, r⟩ := shr_lst h1
  rw [shr_int h2]
  obtain ⟨g1, g2, g3, g4⟩ := hg
  have hs : ∀ {p : Addr} {o : HO} (hp : H p = none) (no : NTbl o := by first | exact nt_lst | exact nt_tup | exact nt_dK | exact nt_dT), Same H (upd H p o) := fun hp no => Same.new hp no
  refine ⟨a, _, vs, rfl, rfl, q.1, g1, g2, by rw [← r.length]; exact Nat.le_trans g3 million, fun p hp => hq _ _ _ g4 (hs hp) ?_⟩
  exact .sls ⟨upd_same, .inr hp⟩ ((Owns.keep (fun _ z => z) (shrs_rep r _) (.same (hs hp))).mono fun _ => .inl)
def gKids (k : List T → (T → Prop) → Prop) : List T → (T → Prop) → Prop := fun ts R => match ts with
  | [.nd .lst us] => k us R
  | [.tup us] => k us R
  | [.ctp us] => k us R
  | _ => False
theorem caT_list {K : PySem.W.Frag} : CaT K (fun xs H Q => ∃ p ys, xs = [.ref p] ∧ (SqL K H p ys ∨ SqT K H p ys) ∧ ∀ l, H l = none → Q (.ref l) (upd H l (.lst ys))) (gKids fun us R => R (.lst us)) := by
  intro S H xs ts Q R h hg hq
  have hs : ∀ {p : Addr} {o : HO} (hp : H p = none) (no : NTbl o := by first | exact nt_lst | exact nt_tup | exact nt_dK | exact nt_dT), Same H (upd H p o) := fun hp no => Same.new hp no
  unfold gKids at hg
  split at hg
  · obtain ⟨v, rfl, a⟩ := shrs1 h
    obtain ⟨p, vs, rfl, q, r⟩ := shr_lst a
    exact ⟨p, vs, rfl, .inl q.sq, fun l hl => hq _ _ _ hg (hs hl) (.sls ⟨upd_same, .inr hl⟩ ((Owns.keep (fun _ z => z) r (.same (hs hl))).mono fun _ => .inl))⟩
  · obtain ⟨v, rfl, a⟩ := shrs1 h
    obtain ⟨p, vs, rfl, q, r⟩ := shr_tup a
    exact ⟨p, vs, rfl, .inr q, fun l hl => hq _ _ _ hg (hs hl) (.sls ⟨upd_same, .inr hl⟩ ((Owns.keep (fun _ z => z) r (.same (hs hl))).mono fun _ => .inl))⟩
  · obtain ⟨v, rfl, a⟩ := shrs1 h
    obtain ⟨p, vs, rfl, q, r⟩ := shr_ctp a
    exact ⟨p, vs, rfl, .inr q, fun l hl => hq _ _ _ hg (hs hl) (.sls ⟨upd_same, .inr hl⟩ ((Owns.keep (fun _ z => z) r (.same (hs hl))).mono fun _ => .inl))⟩
  · exact hg.elim
end
/-! ### values held -/
section
variable {X : Cx} {e a b c : Expr} {es : List Expr} {pos p p2 : Pos} {w wa wb : List Ent → (T → Prop) → Prop} {v va vb : List Ent → (Nat → T → List Ent → Prop) → Prop}
def vP (w : List Ent → (T → Prop) → Prop) : List Ent → (Nat → T → List Ent → Prop) → Prop := fun ρ R => w ρ fun t => t.flat = true ∧ R 0 t ρ
theorem tv_p (h : TPE X e w) : TVE X e (vP w) := by
  obtain ⟨ta, pa, ka⟩ := h.ok
  refine ⟨⟨ta, pa, fun f τ ρ σ H Q R hs hw hq => ?_⟩⟩
  refine ka _ ρ σ H _ _ hs.rdAll hw fun t v H1 h1 s1 x1 => ?_
  obtain ⟨S, rs, s⟩ := hs.same s1
  exact hq 0 t ρ v [] H1 h1.2 ⟨S, rs, s.pushS ((x1.flat0 h1.1).2 0 S)⟩
def vSh (w : List Ent → (T → Prop) → Prop) : List Ent → (Nat → T → List Ent → Prop) → Prop := fun ρ R => w (shOnly ρ) fun t => R 0 t ρ
theorem tv_sh (h : TPE X e w) : TVE X e (vSh w) := by
  obtain ⟨ta, pa, ka⟩ := h.ok
  refine ⟨⟨ta, pa, fun f τ ρ σ H Q R hs hw hq => ?_⟩⟩
  obtain ⟨S, rs, s⟩ := hs
  refine ka S (shOnly ρ) σ H _ _ s.rdSh hw fun t v H1 h1 s1 x1 => ?_
  exact hq 0 t ρ v [] H1 h1 ⟨_, rs, (s.grow s1).pushS (shr_grown x1)⟩
def wVarV (i : Nat) : List Ent → (Nat → T → List Ent → Prop) → Prop := fun ρ R => match ρ[i]? with
  | some (.ow 0 t) => R 0 t ρ
  | some (.ow (n + 1) t) => R (n + 1) t (setE ρ i .no)
  | _ => False
theorem tv_var (i : Nat) {x : Str} (hN : X.N[i]? = some x := by rfl) (hv : Vis X.env.scope x := by first | exact Or.inl rfl | exact Or.inr (Or.inl rfl) | exact Or.inr (Or.inr rfl)) (hd : (x == ("__debug__" : Str)) = false := by decide)
    (hcd : (x == ("__classdict__" : Str)) = false := by decide) : TVE X (.Name x pos) (wVarV i) := by
  refine ⟨⟨_, pe_var hN hv hd hcd, fun f τ ρ σ H Q R hs hw hq => ?_⟩⟩
  obtain ⟨S, rs, s⟩ := hs
  unfold wVarV at hw
  split at hw
  · rename_i t he
    obtain ⟨v, h1, h2⟩ := s.copyV he
    exact ⟨v, h1, hq 0 t ρ v [] H hw ⟨S, rs, h2⟩⟩
  · rename_i n t he
    obtain ⟨v, F, rs', h1, h2⟩ := s.moveV he
    exact ⟨v, h1, hq (n + 1) t _ v F H hw ⟨S, rs', h2⟩⟩
  · exact hw.elim
def vFit (k : Nat) (v : List Ent → (Nat → T → List Ent → Prop) → Prop) : List Ent → (Nat → T → List Ent → Prop) → Prop := fun ρ R => v ρ fun n t ρ' => fit k n t ∧ R k t ρ'
theorem tv_fit (k : Nat) (h : TVE X e v) : TVE X e (vFit k v) := by
  obtain ⟨ta, pa, ka⟩ := h.ok
  refine ⟨⟨ta, pa, fun f τ ρ σ H Q R hs hw hq => ?_⟩⟩
  refine ka f τ ρ σ H _ _ hs hw fun n t ρ' v F H1 h1 s1 => ?_
  obtain ⟨S, rs, s⟩ := s1
  obtain ⟨F', S', _, s'⟩ := s.fitV h1.1
  exact hq k t ρ' v F' H1 h1.2 ⟨S', rs, s'⟩
variable {ks : List Nat} {k : Nat} {vA : List Ent → (List T → List Ent → Prop) → Prop}
def vaNil : List Ent → (List T → List Ent → Prop) → Prop := fun ρ R => R [] ρ
theorem tva_nil : TVA X [] [] (vaNil) := ⟨⟨_, pa_nil, fun f τ ρ σ H Q R hs hw hq => hq [] ρ [] [] H hw .nil (by rw [List.append_nil]; exact hs)⟩⟩
def vaCons (k : Nat) (v : List Ent → (Nat → T → List Ent → Prop) → Prop) (vA : List Ent → (List T → List Ent → Prop) → Prop) : List Ent → (List T → List Ent → Prop) → Prop := fun ρ R => v ρ fun n t ρ' => fit k n t ∧ vA ρ' fun ts ρ'' => R (t :: ts) ρ''
theorem tva_cons (k : Nat) (ha : TVE X e v) (hr : TVA X ks es vA) (hs : starEach (e :: es) X.env = (false, eval e X.env) :: starEach es X.env := by rfl) :
    TVA X (k :: ks) (e :: es) (vaCons k v vA) := by
  obtain ⟨ta, pa, ka⟩ := (tv_fit k ha).ok
  obtain ⟨tb, pb, kb⟩ := hr.ok
  refine ⟨⟨_, pa_cons pa pb hs, fun f τ ρ σ H Q R hs hw hq => ?_⟩⟩
  refine ka f τ ρ σ H _ (fun n t ρ' => n = k ∧ vA ρ' fun ts ρ'' => R (t :: ts) ρ'') hs ?_ fun n t ρ' v F H1 h1 s1 => ?_
  · have mono : ∀ {ρ : List Ent} {R R' : Nat → T → List Ent → Prop}, (∀ n t ρ, R n t ρ → R' n t ρ) → R = R' ∨ True := fun _ => .inr trivial
    have e : (fun n t ρ' => fit k n t ∧ (fun n t ρ' => n = k ∧ vA ρ' fun ts ρ'' => R (t :: ts) ρ'') k t ρ') = fun n t ρ' => fit k n t ∧ vA ρ' fun ts ρ'' => R (t :: ts) ρ'' := by
      funext n t ρ'
      simp
    show v ρ (fun n t ρ' => fit k n t ∧ (fun n t ρ' => n = k ∧ vA ρ' fun ts ρ'' => R (t :: ts) ρ'') k t ρ')
    rw [e]
    exact hw
  · obtain ⟨rfl, h1⟩ := h1
    refine kb f (τ ++ [tmp n t v F]) ρ' σ H1 _ _ s1 h1 fun ts ρ'' vs ms H2 h2 hm s2 => ?_
    refine hq (t :: ts) ρ'' (v :: vs) (tmp n t v F :: ms) H2 h2 (.cons hm) ?_
    have e : τ ++ [tmp n t v F] ++ ms = τ ++ tmp n t v F :: ms := by simp
    rw [← e]
    exact s2
theorem Tms.lens : ∀ {ks : List Nat} {ts : List T} {vs : List V} {ms : List Root}, Tms ks ts vs ms → vs.length = ks.length ∧ ts.length = ks.length
  | _, _, _, _, .nil => ⟨rfl, rfl⟩
  | _, _, _, _, .cons h => by
    obtain ⟨a, b⟩ := Tms.lens h
    exact ⟨by rw [List.length_cons, List.length_cons, a], by rw [List.length_cons, List.length_cons, b]⟩
def vLst (k : Nat) (vA : List Ent → (List T → List Ent → Prop) → Prop) : List Ent → (Nat → T → List Ent → Prop) → Prop := fun ρ R => vA ρ fun ts ρ' => R (k + 1) (.lst ts) ρ'
theorem tv_lst (k : Nat) (h : TVA X ks es vA) (hk : ∀ m ∈ ks, m = k := by simp) (hl : ks.length ≤ 1000 := by decide) : TVE X (.List es pos) (vLst k vA) := by
  obtain ⟨ta, pa, ka⟩ := h.ok
  refine ⟨⟨_, pe_lst pa, fun f τ ρ σ H Q R hs hw hq => ?_⟩⟩
  refine ka f τ ρ σ H _ _ hs hw fun ts ρ' vs ms H1 h1 hm s1 => ?_
  obtain ⟨S, rs, s⟩ := s1
  refine ⟨Nat.le_of_lt (small1000 (by rw [hm.lens.1]; exact hl)), fun p hp => ?_⟩
  have z := s.join hm hk hp (o := .lst vs) (t := .lst ts) (n := k + 1) (Fp := [p]) (.inr ⟨rfl, .lst, vs, rfl⟩) (fun H' e o => Own.lst e o)
  exact hq (k + 1) (.lst ts) ρ' _ _ _ h1 ⟨S, rs, z⟩
def vTup (k : Nat) (vA : List Ent → (List T → List Ent → Prop) → Prop) : List Ent → (Nat → T → List Ent → Prop) → Prop := fun ρ R => vA ρ fun ts ρ' => R (k + 1) (.tup ts) ρ'
theorem tv_tup (k : Nat) {m : Nat} (h : TVA X ks es vA) (hk : ∀ m ∈ ks, m = k := by simp) (hl : ks.length ≤ 1000 := by decide) : TVE X (.Tuple es m pos) (vTup k vA) := by
  obtain ⟨ta, pa, ka⟩ := h.ok
  refine ⟨⟨_, pe_tup pa, fun f τ ρ σ H Q R hs hw hq => ?_⟩⟩
  refine ka f τ ρ σ H _ _ hs hw fun ts ρ' vs ms H1 h1 hm s1 => ?_
  obtain ⟨S, rs, s⟩ := s1
  refine ⟨Nat.le_of_lt (small1000 (by rw [hm.lens.1]; exact hl)), fun p hp => ?_⟩
  have z := s.join hm hk hp (o := .tup vs) (t := .tup ts) (n := k + 1) (Fp := []) (.inl rfl) (fun H' e o => by rw [List.nil_append]; exact Own.tup e o)
  exact hq (k + 1) (.tup ts) ρ' _ _ _ h1 ⟨S, rs, z⟩
def vTup0 (vA : List Ent → (List T → List Ent → Prop) → Prop) : List Ent → (Nat → T → List Ent → Prop) → Prop := fun ρ R => vA ρ fun ts ρ' => R 0 (.tup ts) ρ'
/-- a tuple of shared values -/
theorem tv_tup0 {m : Nat} (h : TVA X ks es vA) (hk : ∀ m ∈ ks, m = 0 := by simp) (hl : ks.length ≤ 1000 := by decide) : TVE X (.Tuple es m pos) (vTup0 vA) := by
  obtain ⟨ta, pa, ka⟩ := h.ok
  refine ⟨⟨_, pe_tup pa, fun f τ ρ σ H Q R hs hw hq => ?_⟩⟩
  refine ka f τ ρ σ H _ _ hs hw fun ts ρ' vs ms H1 h1 hm s1 => ?_
  obtain ⟨S, rs, s⟩ := s1
  refine ⟨Nat.le_of_lt (small1000 (by rw [hm.lens.1]; exact hl)), fun p hp => ?_⟩
  have z := s.join hm hk hp (o := .tup vs) (t := .tup ts) (n := 0) (Fp := []) (.inl rfl) (fun H' e o => by
    have e0 := o.zero
    rw [e0] at o ⊢
    exact Own.tup0 e o)
  exact hq 0 (.tup ts) ρ' _ _ _ h1 ⟨S, rs, z⟩
/-- a new list whose items are flat, out of a pure value that makes it -/
theorem tv_new {tt : TE} (hp : PE X e tt) {u : List Ent → (List T → Prop) → Prop}
    (hk : ∀ (S : Addr → Prop) (ρ : List Ent) (σ : St) (H : Hp) (Q : VK) (R : List T → Prop), RdS X.K S ρ σ H → u ρ R → (∀ ts vs H1, R ts → Same H H1 → Shrs X.K H1 (fresh S H) ts vs → ∀ p, H1 p = none → Q (.ref p) (upd H1 p (.lst vs))) → tt σ H Q) :
    TVE X e (fun ρ R => u ρ fun ts => T.flats ts = true ∧ R 1 (.lst ts) ρ) := by
  refine ⟨⟨tt, hp, fun f τ ρ σ H Q R hs hw hq => ?_⟩⟩
  refine hk _ ρ σ H _ _ hs.rdAll hw fun ts vs H1 h1 s1 x1 p hp => ?_
  obtain ⟨S, rs, s⟩ := hs.same s1
  have hsm : Same H1 (upd H1 p (.lst vs)) := Same.new hp (by first | exact nt_lst | exact nt_tup | exact nt_dK | exact nt_dT | exact nt_xd)
  have x2 : Owns X.K (upd H1 p (.lst vs)) (fresh (fun _ => True) H) 0 ts vs [] := Owns.keep (fun _ z => z) x1 (.same hsm)
  exact hq 1 (.lst ts) ρ _ _ _ h1.2 ⟨S, rs, s.pushNew (kd := .lst) hp rfl ((Owns.flat0 x2 h1.1).2 0 S)⟩
def vList (wA : List Ent → (List T → Prop) → Prop) : List Ent → (Nat → T → List Ent → Prop) → Prop := fun ρ R => wA ρ (fun ts => gKids (fun us _ => T.flats us = true ∧ R 1 (.lst us) ρ) ts fun _ => False)
theorem tv_list {wA : List Ent → (List T → Prop) → Prop} (hg : Gl X "list") (hm : X.mg "list" = none) (ha : TPA X [a] wA) (hv : bootBuiltins "list" = some (.type "list") := by decide +kernel)
    (he : starEach [a] X.env = (false, eval a X.env) :: starEach [] X.env := by rfl) (hpl : (backTo pos (starEach [] X.env)).any (·.1) = false := by rfl) :
    TVE X (.Call (.Name "list" p) [a] [] pos) (vList wA) := by
  obtain ⟨ta, pa, ka⟩ := ha.ok
  refine tv_new (u := fun ρ R => wA ρ (fun ts => gKids (fun us _ => R us) ts fun _ => False)) (pe_callTy call_list_of hg hm hv pa (by decide) (by decide) he hpl) fun S ρ σ H Q R hr hw hq => ?_
  refine ka S ρ σ H _ _ hr hw fun ts vs H1 h1 s1 x1 => ?_
  unfold gKids at h1
  split at h1
  · obtain ⟨v, rfl, a⟩ := shrs1 x1
    obtain ⟨p0, ws, rfl, q, r⟩ := shr_lst a
    exact ⟨p0, ws, rfl, .inl q.sq, fun l hl => hq _ ws H1 h1 s1 r l hl⟩
  · obtain ⟨v, rfl, a⟩ := shrs1 x1
    obtain ⟨p0, ws, rfl, q, r⟩ := shr_tup a
    exact ⟨p0, ws, rfl, .inr q, fun l hl => hq _ ws H1 h1 s1 r l hl⟩
  · obtain ⟨v, rfl, a⟩ := shrs1 x1
    obtain ⟨p0, ws, rfl, q, r⟩ := shr_ctp a
    exact ⟨p0, ws, rfl, .inr q, fun l hl => hq _ ws H1 h1 s1 r l hl⟩
  · exact h1.elim
def vRep (wa : List Ent → (T → Prop) → Prop) (wb : List Ent → (T → Prop) → Prop) : List Ent → (Nat → T → List Ent → Prop) → Prop := fun ρ R => wa ρ fun t => wb ρ fun u => gRep t u fun z => match z with | .nd .lst ts => T.flats ts = true ∧ R 1 (.lst ts) ρ | _ => False
theorem tv_rep (ha : TPE X a wa) (hb : TPE X b wb) : TVE X (.BinOp a .Mult b pos) (vRep wa wb) := by
  obtain ⟨ta, pa, ka⟩ := ha.ok
  obtain ⟨tb, pb, kb⟩ := hb.ok
  refine tv_new (u := fun ρ R => wa ρ fun t => wb ρ fun u => gRep t u fun z => match z with | .nd .lst ts => R ts | _ => False) (pe_op op_rep pa pb) fun S ρ σ H Q R hr hw hq => ?_
  refine ka S ρ σ H _ _ hr hw fun t v H1 h1 s1 x1 => ?_
  refine kb (fresh S H) ρ σ H1 _ _ (hr.same s1) h1 fun u v2 H2 h2 s2 x2 => ?_
  cases t using T.cs <;> first | exact h2.elim | skip
  cases u using T.cs <;> first | exact h2.elim | skip
  obtain ⟨a0, vs, rfl, q, r⟩ := shr_lst (x1.keep (fun _ z => z) (.same s2))
  rw [shr_int x2]
  obtain ⟨g1, g2, g3, g4⟩ := h2
  exact ⟨a0, _, vs, rfl, rfl, q.1, g1, g2, by rw [← r.length]; exact Nat.le_trans g3 million, fun p hp => hq _ _ H2 g4 (s1.trans s2) (shrs_rep r _) p hp⟩
variable {lo hi : Option Expr} {wl wh : List Ent → (Option Int → Prop) → Prop}
def vSlice (wa : List Ent → (T → Prop) → Prop) (wl : List Ent → (Option Int → Prop) → Prop) (wh : List Ent → (Option Int → Prop) → Prop) : List Ent → (Nat → T → List Ent → Prop) → Prop := fun ρ R => wSl wa wl wh ρ fun ts l h => T.flats (cutT ts l h) = true ∧ R 1 (.lst (cutT ts l h)) ρ
theorem tv_slice (ha : TPE X a wa) (hl : TPO X lo wl) (hh : TPO X hi wh) : TVE X (.Subscript a (.Slice lo hi none p2) pos) (vSlice wa wl wh) := by
  obtain ⟨ta, pa, ka⟩ := ha.ok
  obtain ⟨tl, pl, kl⟩ := hl.ok
  obtain ⟨th, ph, kh⟩ := hh.ok
  refine tv_new (u := fun ρ R => wSl wa wl wh ρ fun ts l h => R (cutT ts l h)) (pe_slice sl_list pa pl ph) fun S ρ σ H Q R hr hw hq => ?_
  refine ka S ρ σ H _ _ hr hw fun t v H1 h1 s1 x1 => ?_
  refine kl (fresh S H) ρ σ H1 _ _ (hr.same s1) h1 fun l H2 h2 s2 => ?_
  refine kh (fresh (fresh S H) H1) ρ σ H2 _ _ ((hr.same s1).same s2) h2 fun h H3 h3 s3 => ?_
  cases t using T.cs <;> first | exact h3.elim | skip
  have s13 := s2.trans s3
  obtain ⟨p0, vs, rfl, q, r⟩ := shr_lst (x1.keep (fun _ z => z) (.same s13))
  exact ⟨p0, vs, rfl, q.sq, fun p hp => hq _ _ H3 h3 (s1.trans s13) (shrs_cut r) p hp⟩
end
end TL
set_option Elab.async false
set_option linter.all false
set_option maxRecDepth 100000
namespace TL
open PySem PySem.Spec PyProof.Rows L2

/-! ### calls that change slots -/
inductive AR where
  | sl (j : Nat) | tv (k : Nat)
inductive Cms (σ : St) : List AR → List T → List V → List Root → Prop
  | nil : Cms σ [] [] [] []
  | sl {j : Nat} {as : List AR} {ts : List T} {v : V} {vs : List V} {ms : List Root} : σ[j]? = some (some v) → Cms σ as ts vs ms → Cms σ (.sl j :: as) (.non :: ts) (v :: vs) ms
  | tv {k : Nat} {as : List AR} {t : T} {ts : List T} {v : V} {vs : List V} {F : List Addr} {ms : List Root} : Cms σ as ts vs ms → Cms σ (.tv k :: as) (t :: ts) (v :: vs) (tmp k t v F :: ms)
def slsOf : List AR → List Nat
  | [] => []
  | .sl j :: as => j :: slsOf as
  | .tv _ :: as => slsOf as
/-- the trees that the callee gets -/
def inT (ρ : List Ent) : List Par → List AR → List T → Option (List T)
  | [], [], [] => some []
  | .sh :: ps, .tv k :: as, t :: ts => if k = 0 then (inT ρ ps as ts).map (t :: ·) else none
  | .io n :: ps, .tv k :: as, t :: ts => if k = n then (inT ρ ps as ts).map (t :: ·) else none
  | .io n :: ps, .sl j :: as, _ :: ts => match ρ[j]?.bind Ent.own with
    | some (m, t) => if m = n then (inT ρ ps as ts).map (t :: ·) else none
    | none => none
  | _, _, _ => none
/-- which slots get which trees behind the call -/
def ups : List Par → List AR → List T → List (Nat × T)
  | .sh :: ps, _ :: as, os => ups ps as os
  | .io _ :: ps, .tv _ :: as, _ :: os => ups ps as os
  | .io _ :: ps, .sl j :: as, o :: os => (j, o) :: ups ps as os
  | _, _, _ => []
def putL (us : List (Nat × T)) : Nat → List Ent → List Ent
  | _, [] => []
  | k, e :: ρ => (match us.lookup k with
    | some t => e.put t
    | none => e) :: putL us (k + 1) ρ
theorem putL_get (us : List (Nat × T)) : ∀ (ρ : List Ent) (k i : Nat), (putL us k ρ)[i]? = ρ[i]?.map fun e => match us.lookup (k + i) with
    | some t => e.put t
    | none => e
  | [], k, i => by rw [putL]; simp
  | e :: ρ, k, 0 => by rw [putL]; simp
  | e :: ρ, k, i + 1 => by
    rw [putL, List.getElem?_cons_succ, List.getElem?_cons_succ, putL_get us ρ (k + 1) i]
    have e : k + 1 + i = k + (i + 1) := by omega
    rw [e]
theorem putL_len (us : List (Nat × T)) : ∀ (ρ : List Ent) (k : Nat), (putL us k ρ).length = ρ.length
  | [], _ => rfl
  | e :: ρ, k => by rw [putL, List.length_cons, List.length_cons, putL_len us ρ]
/-- slot -> place among the callee's changed arguments -/
def ixs : List Par → List AR → Nat → List (Nat × Nat)
  | .sh :: ps, _ :: as, d => ixs ps as d
  | .io _ :: ps, .tv _ :: as, d => ixs ps as (d + 1)
  | .io _ :: ps, .sl j :: as, d => (j, d) :: ixs ps as (d + 1)
  | _, _, _ => []
theorem lookup_mem {α : Type} {l : List (Nat × α)} {i : Nat} {x : α} (h : l.lookup i = some x) : (i, x) ∈ l := by
  induction l with
  | nil => cases h
  | cons p l ih =>
    obtain ⟨a, b⟩ := p
    by_cases e : i = a
    · subst e
      simp [List.lookup] at h
      subst h
      exact List.mem_cons_self
    · have e2 : (i == a) = false := by simpa using e
      simp [List.lookup, e2] at h
      exact List.mem_cons_of_mem _ (ih h)
theorem ixs_ge : ∀ {ps : List Par} {as : List AR} {d : Nat} {p : Nat × Nat}, p ∈ ixs ps as d → d ≤ p.2
  | .sh :: ps, a :: as, d, p, h => by rw [ixs] at h; exact ixs_ge h
  | .io n :: ps, .tv k :: as, d, p, h => by
    rw [ixs] at h
    have := ixs_ge h
    omega
  | .io n :: ps, .sl j :: as, d, p, h => by
    rw [ixs] at h
    rcases List.mem_cons.mp h with rfl | h
    · exact Nat.le_refl _
    · have := ixs_ge h
      omega
  | [], as, d, p, h => by rw [ixs] at h <;> first | cases h | simp
  | .sh :: ps, [], d, p, h => by rw [ixs] at h <;> first | cases h | simp
  | .io n :: ps, [], d, p, h => by rw [ixs] at h <;> first | cases h | simp
theorem ixs_inj : ∀ {ps : List Par} {as : List AR} {d : Nat} {i j x : Nat}, (i, x) ∈ ixs ps as d → (j, x) ∈ ixs ps as d → i = j
  | .sh :: ps, a :: as, d, i, j, x, h, g => by rw [ixs] at h g; exact ixs_inj h g
  | .io n :: ps, .tv k :: as, d, i, j, x, h, g => by rw [ixs] at h g; exact ixs_inj h g
  | .io n :: ps, .sl j' :: as, d, i, j, x, h, g => by
    rw [ixs] at h g
    rcases List.mem_cons.mp h with h | h
    · rcases List.mem_cons.mp g with g | g
      · have := Prod.mk.inj h
        have := Prod.mk.inj g
        omega
      · have h1 := Prod.mk.inj h
        have h2 := ixs_ge g
        simp at h2
        omega
    · rcases List.mem_cons.mp g with g | g
      · have h1 := Prod.mk.inj g
        have h2 := ixs_ge h
        simp at h2
        omega
      · exact ixs_inj h g
  | [], as, d, i, j, x, h, g => by rw [ixs] at h <;> first | cases h | simp
  | .sh :: ps, [], d, i, j, x, h, g => by rw [ixs] at h <;> first | cases h | simp
  | .io n :: ps, [], d, i, j, x, h, g => by rw [ixs] at h <;> first | cases h | simp
theorem getElem?_skip {α : Type} (l r : List α) (i : Nat) : (l ++ r)[l.length + i]? = r[i]? := by
  rw [List.getElem?_append_right (by omega)]
  have e : l.length + i - l.length = i := by omega
  rw [e]
section
variable {K : PySem.W.Frag} {f : Fm} {S S' : Addr → Prop} {H H' : Hp} {τ τ' ms rs rs' : List Root} {ρ ρ' : List Ent} {σ : St}
theorem slot_io {e : Ent} {o : Option V} {F : List Addr} {n : Nat} {t : T} (h : SlotR K H S e o F) (ho : e.own = some (n, t)) : SlotR K H S (.io n t) o F := h.own ho
/-- the callee's roots -/
theorem mkRc (all : List Root) (hslot : ∀ (i : Nat) r, all[i]? = some r → SlotR K H S r.e r.o r.F) (hρ : ∀ (i : Nat) e, ρ[i]? = some e → ∃ r, all[i]? = some r ∧ r.e = e ∧ σ[i]? = some r.o) :
    ∀ {ps : List Par} {as : List AR} {ts us : List T} {vs : List V} {ms : List Root} (off : Nat), Cms σ as ts vs ms → inT ρ ps as ts = some us → (slsOf as).Nodup → (∀ j ∈ slsOf as, j < off) → (∀ i r, ms[i]? = some r → all[off + i]? = some r) →
    ∃ (rc : List Root) (g : Nat → Nat), Pin ps us vs rc ∧ (∀ m r, rc[m]? = some r → ∃ q, all[g m]? = some q ∧ q.F = r.F ∧ SlotR K H S r.e r.o r.F) ∧ (∀ m l, m < rc.length → l < rc.length → g m = g l → m = l) ∧ ∀ m, m < rc.length → g m ∈ slsOf as ∨ off ≤ g m
  | ps, [], ts, us, vs, ms, off, c, h, nd, hj, hm => by
    cases c
    cases ps with
    | nil =>
      rw [inT] at h
      cases h
      exact ⟨[], fun m => m, .nil, fun m r e => by simp at e, fun m l e => by simp at e, fun m e => by simp at e⟩
    | cons p ps => cases p <;> (rw [inT] at h <;> first | cases h | simp)
  | ps, .sl j :: as, ts, us, vs, ms, off, c, h, nd, hj, hm => by
    cases c with
    | @sl _ _ ts v vs ms hv c =>
      cases ps with
      | nil => rw [inT] at h <;> first | cases h | simp
      | cons p ps =>
        cases p with
        | sh => rw [inT] at h <;> first | cases h | simp
        | io n =>
          rw [inT] at h
          cases q : ρ[j]?.bind Ent.own with
          | none => rw [q] at h; cases h
          | some mt =>
            obtain ⟨m, t⟩ := mt
            rw [q] at h
            by_cases e : m = n
            · subst e
              simp only [if_true] at h
              cases q2 : inT ρ ps as ts with
              | none => rw [q2] at h; cases h
              | some us' =>
                rw [q2] at h
                have h := (Option.some.inj h).symm
                subst h
                obtain ⟨nj, nd'⟩ := List.nodup_cons.mp (show (j :: slsOf as).Nodup from nd)
                obtain ⟨rc, g, p1, p2, p3, p4⟩ := mkRc all hslot hρ off c q2 nd' (fun k hk => hj k (List.mem_cons_of_mem _ hk)) hm
                cases q3 : ρ[j]? with
                | none => rw [q3] at q; cases q
                | some e =>
                  rw [q3] at q
                  have q : e.own = some (m, t) := q
                  obtain ⟨r, r1, r2, r3⟩ := hρ j e q3
                  have z := slot_io (n := m) (t := t) (hslot j r r1) (by rw [r2]; exact q)
                  rw [hv] at r3
                  have r3 := Option.some.inj r3
                  refine ⟨⟨.io m t, some v, r.F⟩ :: rc, fun i => match i with | 0 => j | i + 1 => g i, .cons (p := .io m) p1, fun i r' e' => ?_, fun a b ha hb z => ?_, fun i hi => ?_⟩
                  · cases i with
                    | zero =>
                      have e' := (Option.some.inj e').symm
                      subst e'
                      exact ⟨r, r1, rfl, by rw [r3]; exact z⟩
                    | succ i => exact p2 i r' (by simpa using e')
                  · cases a with
                    | zero =>
                      cases b with
                      | zero => rfl
                      | succ b =>
                        have z : j = g b := z
                        rcases p4 b (by simpa using hb) with w | w
                        · exact absurd (z ▸ w) nj
                        · have := hj j List.mem_cons_self; omega
                    | succ a =>
                      cases b with
                      | zero =>
                        have z : g a = j := z
                        rcases p4 a (by simpa using ha) with w | w
                        · exact absurd (z ▸ w) nj
                        · have := hj j List.mem_cons_self; omega
                      | succ b =>
                        have := p3 a b (by simpa using ha) (by simpa using hb) z
                        rw [this]
                  · cases i with
                    | zero => exact .inl List.mem_cons_self
                    | succ i => exact (p4 i (by simpa using hi)).imp_left (List.mem_cons_of_mem _)
            · simp only [if_neg e] at h; cases h
  | ps, .tv k :: as, ts, us, vs, ms, off, c, h, nd, hj, hm => by
    cases c with
    | @tv _ _ t ts v vs F ms c =>
      have hroot : all[off]? = some (tmp k t v F) := by have := hm 0 _ rfl; simpa using this
      have hs0 := hslot _ _ hroot
      have rest : ∀ {ps : List Par} {us' : List T} {pp : Par}, inT ρ ps as ts = some us' → SlotR K H S (entOf pp t) (some v) F →
          ∃ (rc : List Root) (g : Nat → Nat), Pin (pp :: ps) (t :: us') (v :: vs) rc ∧ (∀ m r, rc[m]? = some r → ∃ q, all[g m]? = some q ∧ q.F = r.F ∧ SlotR K H S r.e r.o r.F) ∧ (∀ m l, m < rc.length → l < rc.length → g m = g l → m = l) ∧ ∀ m, m < rc.length → g m ∈ slsOf as ∨ off ≤ g m := by
        intro ps us' pp q2 hsp
        obtain ⟨rc, g, p1, p2, p3, p4⟩ := mkRc all hslot hρ (off + 1) c q2 nd (fun k hk => Nat.lt_succ_of_lt (hj k hk)) (fun i r e => by
          have := hm (i + 1) r (by simpa using e)
          have e2 : off + 1 + i = off + (i + 1) := by omega
          rw [e2]; exact this)
        refine ⟨⟨entOf pp t, some v, F⟩ :: rc, fun i => match i with | 0 => off | i + 1 => g i, .cons p1, fun i r' e' => ?_, fun a b ha hb z => ?_, fun i hi => ?_⟩
        · cases i with
          | zero =>
            have e' := (Option.some.inj e').symm
            subst e'
            exact ⟨_, hroot, rfl, hsp⟩
          | succ i => exact p2 i r' (by simpa using e')
        · cases a with
          | zero =>
            cases b with
            | zero => rfl
            | succ b =>
              have z : off = g b := z
              rcases p4 b (by simpa using hb) with w | w
              · have := hj _ w; omega
              · omega
          | succ a =>
            cases b with
            | zero =>
              have z : g a = off := z
              rcases p4 a (by simpa using ha) with w | w
              · have := hj _ w; omega
              · omega
            | succ b =>
              have := p3 a b (by simpa using ha) (by simpa using hb) z
              rw [this]
        · cases i with
          | zero => exact .inr (Nat.le_refl _)
          | succ i => exact (p4 i (by simpa using hi)).imp_right (fun z => by show off ≤ g i; omega)
      cases ps with
      | nil => rw [inT] at h <;> first | cases h | simp
      | cons p ps =>
        cases p with
        | sh =>
          rw [inT] at h
          by_cases e : k = 0
          · subst e
            simp only [if_true] at h
            cases q2 : inT ρ ps as ts with
            | none => rw [q2] at h; cases h
            | some us' =>
              rw [q2] at h
              have h := (Option.some.inj h).symm
              subst h
              exact rest (pp := .sh) q2 hs0
          · rw [if_neg e] at h; cases h
        | io n =>
          rw [inT] at h
          by_cases e : k = n
          · subst e
            simp only [if_true] at h
            cases q2 : inT ρ ps as ts with
            | none => rw [q2] at h; cases h
            | some us' =>
              rw [q2] at h
              have h := (Option.some.inj h).symm
              subst h
              exact rest (pp := .io k) q2 hs0
          · rw [if_neg e] at h; cases h
/-- what comes back, slot by slot -/
theorem outs_ix : ∀ {ps : List Par} {as : List AR} {ts us : List T} {vs : List V} {ms rs' : List Root} {outs : List T} (d : Nat), Cms σ as ts vs ms → inT ρ ps as ts = some us → Pout ps outs vs rs' → (slsOf as).Nodup →
    (∀ j, j ∉ slsOf as → (ups ps as outs).lookup j = none ∧ (ixs ps as d).lookup j = none) ∧
    ∀ j ∈ slsOf as, ∃ n t t' v F x e, ρ[j]? = some e ∧ e.own = some (n, t) ∧ σ[j]? = some (some v) ∧ (ups ps as outs).lookup j = some t' ∧ (ixs ps as d).lookup j = some (d + x) ∧ rs'[x]? = some ⟨.io n t', some v, F⟩
  | ps, [], ts, us, vs, ms, rs', outs, d, c, h, po, nd => by
    cases c
    cases ps with
    | nil => exact ⟨fun j _ => ⟨by rw [ups] <;> simp, by rw [ixs] <;> simp⟩, fun j hj => nomatch hj⟩
    | cons p ps => cases p <;> (rw [inT] at h <;> first | cases h | simp)
  | ps, .sl j0 :: as, ts, us, vs, ms, rs', outs, d, c, h, po, nd => by
    cases c with
    | @sl _ _ ts v vs ms hv c =>
      cases ps with
      | nil => rw [inT] at h <;> first | cases h | simp
      | cons p ps =>
        cases p with
        | sh => rw [inT] at h <;> first | cases h | simp
        | io n =>
          rw [inT] at h
          cases q : ρ[j0]?.bind Ent.own with
          | none => rw [q] at h; cases h
          | some mt =>
            obtain ⟨m, t⟩ := mt
            rw [q] at h
            by_cases e : m = n
            · subst e
              simp only [if_true] at h
              cases q2 : inT ρ ps as ts with
              | none => rw [q2] at h; cases h
              | some us' =>
                cases po with
                | @io _ _ o outs _ _ F rs' po =>
                  obtain ⟨nj, nd'⟩ := List.nodup_cons.mp (show (j0 :: slsOf as).Nodup from nd)
                  obtain ⟨h1, h2⟩ := outs_ix (d + 1) c q2 po nd'
                  refine ⟨fun j hj => ?_, fun j hj => ?_⟩
                  · have hne : j ≠ j0 := fun z => hj (z ▸ List.mem_cons_self)
                    have hb : (j == j0) = false := by simpa using hne
                    obtain ⟨a, b⟩ := h1 j fun z => hj (List.mem_cons_of_mem _ z)
                    exact ⟨by simp [ups, List.lookup, hb, a], by simp [ixs, List.lookup, hb, b]⟩
                  · rcases List.mem_cons.mp hj with rfl | hj
                    · cases q3 : ρ[j]? with
                      | none => rw [q3] at q; cases q
                      | some e =>
                        rw [q3] at q
                        exact ⟨m, t, o, v, F, 0, e, rfl, q, hv, by simp [ups, List.lookup], by simp [ixs, List.lookup], rfl⟩
                    · have hne : j ≠ j0 := fun z => nj (z ▸ hj)
                      have hb : (j == j0) = false := by simpa using hne
                      obtain ⟨n', t0, t', v', F', x, e, a1, a2, a3, a4, a5, a6⟩ := h2 j hj
                      exact ⟨n', t0, t', v', F', x + 1, e, a1, a2, a3, by simp [ups, List.lookup, hb, a4], by simp [ixs, List.lookup, hb, a5]; omega, by simpa using a6⟩
            · simp only [if_neg e] at h; cases h
  | ps, .tv k :: as, ts, us, vs, ms, rs', outs, d, c, h, po, nd => by
    cases c with
    | @tv _ _ t ts v vs F ms c =>
      cases ps with
      | nil => rw [inT] at h <;> first | cases h | simp
      | cons p ps =>
        cases p with
        | sh =>
          rw [inT] at h
          by_cases e : k = 0
          · subst e
            simp only [if_true] at h
            cases q2 : inT ρ ps as ts with
            | none => rw [q2] at h; cases h
            | some us' =>
              cases po with
              | sh po =>
                obtain ⟨h1, h2⟩ := outs_ix d c q2 po nd
                exact ⟨fun j hj => by have := h1 j hj; exact ⟨by rw [ups]; exact this.1, by rw [ixs]; exact this.2⟩, fun j hj => by
                  obtain ⟨n', t0, t', v', F', x, e, a1, a2, a3, a4, a5, a6⟩ := h2 j hj
                  exact ⟨n', t0, t', v', F', x, e, a1, a2, a3, by rw [ups]; exact a4, by rw [ixs]; exact a5, a6⟩⟩
          · rw [if_neg e] at h; cases h
        | io n =>
          rw [inT] at h
          by_cases e : k = n
          · subst e
            simp only [if_true] at h
            cases q2 : inT ρ ps as ts with
            | none => rw [q2] at h; cases h
            | some us' =>
              cases po with
              | @io _ _ o outs _ _ F' rs' po =>
                obtain ⟨h1, h2⟩ := outs_ix (d + 1) c q2 po nd
                exact ⟨fun j hj => by have := h1 j hj; exact ⟨by rw [ups]; exact this.1, by rw [ixs]; exact this.2⟩, fun j hj => by
                  obtain ⟨n', t0, t', v', F', x, e, a1, a2, a3, a4, a5, a6⟩ := h2 j hj
                  exact ⟨n', t0, t', v', F', x + 1, e, a1, a2, a3, by rw [ups]; exact a4, by rw [ixs, a5]; congr 1; omega, by simpa using a6⟩⟩
          · rw [if_neg e] at h; cases h
end
end TL
set_option Elab.async false
set_option linter.all false
set_option maxRecDepth 100000
namespace TL
open PySem PySem.Spec PyProof.Rows L2
section
variable {K : PySem.W.Frag} {f : Fm} {S S' : Addr → Prop} {H H' : Hp} {τ τ' ms rs rs' : List Root} {ρ ρ' : List Ent} {σ : St}
def Ent.treeIo : Ent → T
  | .io _ t => t
  | _ => .non
/-- a root behind the call -/
def newR (js : List Nat) (U : List (Nat × Nat)) (rs' : List Root) (i : Nat) (r : Root) : Root := match U.lookup i with
  | some x => match rs'[x]? with
    | some q => ⟨r.e.put q.e.treeIo, r.o, q.F⟩
    | none => r
  | none => ⟨noRo js r.e, r.o, if (noRo js r.e).tr.isSome then r.F else []⟩
theorem mem_footOf {a : Addr} {m : Nat} {r : Root} (h : ms[m]? = some r) (ha : a ∈ r.F) : a ∈ foot ms := List.mem_flatMap.mpr ⟨r, List.mem_of_getElem? h, ha⟩
theorem call_core {ps : List Par} {as : List AR} {ts us : List T} {vs : List V} {W : FnT} {R : Nat → T → List T → Prop} {Q : VK} {E : XK}
    (s : StaW K f (τ ++ ms) ρ σ H S rs) (c : Cms σ as ts vs ms) (hin : inT ρ ps as ts = some us) (nd : (slsOf as).Nodup) (hW : W us R)
    (k : ∀ n t outs v F H', R n t outs → Sta K f (τ ++ [tmp n t v F]) (putL (ups ps as outs) 0 (killJ (slsOf as) ρ)) σ H' → Q v H') : spT K ps W vs H Q E := by
  have hsl := fun (i : Nat) r (e : (rs ++ (τ ++ ms))[i]? = some r) => (s.good.slot i r e).1
  have hρ : ∀ (i : Nat) e, ρ[i]? = some e → ∃ r, (rs ++ (τ ++ ms))[i]? = some r ∧ r.e = e ∧ σ[i]? = some r.o := fun i e h => by
    obtain ⟨r, a, b, c, _⟩ := s.get h
    exact ⟨r, a, b, c⟩
  have hoff : ∀ j ∈ slsOf as, j < rs.length := fun j hj => by
    have key : ∀ {ps : List Par} {as : List AR} {ts us : List T}, inT ρ ps as ts = some us → j ∈ slsOf as → j < ρ.length := by
      intro ps as
      induction as generalizing ps with
      | nil => intro ts us _ h; cases h
      | cons a as ih =>
        intro ts us h hj
        cases ps with
        | nil => cases a <;> (rw [inT] at h <;> first | cases h | simp)
        | cons p ps =>
          cases ts with
          | nil => cases a <;> cases p <;> (rw [inT] at h <;> first | cases h | simp)
          | cons t ts =>
            cases a with
            | sl j0 =>
              cases p with
              | sh => rw [inT] at h <;> first | cases h | simp
              | io n =>
                rw [inT] at h
                cases q : ρ[j0]?.bind Ent.own with
                | none => rw [q] at h; cases h
                | some mt =>
                  obtain ⟨m, t'⟩ := mt
                  rw [q] at h
                  rcases List.mem_cons.mp hj with rfl | hj
                  · cases q3 : ρ[j]? with
                    | none => rw [q3] at q; cases q
                    | some e => exact (List.getElem?_eq_some_iff.mp q3).1
                  · by_cases e : m = n
                    · simp only [if_pos e] at h
                      cases q2 : inT ρ ps as ts with
                      | none => rw [q2] at h; cases h
                      | some us' => exact ih q2 hj
                    · simp only [if_neg e] at h; cases h
            | tv k0 =>
              cases p with
              | sh =>
                rw [inT] at h
                by_cases e : k0 = 0
                · rw [if_pos e] at h
                  cases q2 : inT ρ ps as ts with
                  | none => rw [q2] at h; cases h
                  | some us' => exact ih q2 hj
                · rw [if_neg e] at h; cases h
              | io n =>
                rw [inT] at h
                by_cases e : k0 = n
                · rw [if_pos e] at h
                  cases q2 : inT ρ ps as ts with
                  | none => rw [q2] at h; cases h
                  | some us' => exact ih q2 hj
                · rw [if_neg e] at h; cases h
    rw [s.len]
    exact key hin hj
  have hms : ∀ i r, ms[i]? = some r → (rs ++ (τ ++ ms))[(rs ++ τ).length + i]? = some r := fun i r e => by
    rw [← List.append_assoc, getElem?_skip]; exact e
  obtain ⟨rc, g, p1, p2, p3, p4⟩ := mkRc (rs ++ (τ ++ ms)) hsl hρ (rs ++ τ).length c hin nd (fun j hj => by have := hoff j hj; rw [List.length_append]; omega) hms
  -- facts of the callee's footprint
  have frc : ∀ a ∈ foot rc, ∃ (m : Nat) (q : Root), m < rc.length ∧ (rs ++ (τ ++ ms))[g m]? = some q ∧ a ∈ q.F := fun a ha => by
    obtain ⟨m, r, h1, h2⟩ := mem_foot ha
    obtain ⟨q, a1, a2, _⟩ := p2 m r h1
    exact ⟨m, q, (List.getElem?_eq_some_iff.mp h1).1, a1, a2 ▸ h2⟩
  have Gc : Good K (callFm S H rc) S rc H := {
    slot := fun m r e => by
      obtain ⟨q, a1, a2, a3⟩ := p2 m r e
      obtain ⟨_, b2, b3⟩ := s.good.slot _ _ a1
      rw [a2] at b2 b3
      exact ⟨a3, b2, fun a ha => ⟨(b3 a ha).1, .inr (mem_footOf e ha)⟩⟩
    dj := fun m l r q e1 e2 ne a ha hb => by
      obtain ⟨q1, a1, a2, _⟩ := p2 m r e1
      obtain ⟨q2, b1, b2, _⟩ := p2 l q e2
      exact s.good.dj _ _ _ _ a1 b1 (fun z => ne (p3 m l (List.getElem?_eq_some_iff.mp e1).1 (List.getElem?_eq_some_iff.mp e2).1 z)) a (a2 ▸ ha) (b2 ▸ hb)
    trk := s.good.trk
    fr := fun a o h1 _ => .inl h1
    src := fun a h => .inl h
    tb := s.good.tb }
  refine ⟨us, S, rc, R, p1, Gc, hW, fun n t outs v H' S' rs' F0 hR po G' => k n t outs v F0 H' hR ?_⟩
  obtain ⟨o1, o2⟩ := outs_ix 0 c hin po nd
  let U := ixs ps as 0
  let js := slsOf as
  have kept : ∀ a o, H a = some o → a ∉ foot rc → (∀ ps, o ≠ .tbl ps) → H' a = some o := fun a o h1 h2 n => (G'.fr a o h1 h2).nt n
  have nonf : ∀ {i : Nat} {q : Root}, (rs ++ (τ ++ ms))[i]? = some q → i ∉ js → i < (rs ++ τ).length → ∀ a ∈ q.F, a ∉ foot rc := fun {i q} hi hj hl a ha hf => by
    obtain ⟨m, q', h0, h1, h2⟩ := frc a hf
    have ne : i ≠ g m := fun z => by
      rcases p4 m h0 with w | w
      · exact hj (z ▸ w)
      · omega
    exact s.good.dj _ _ _ _ hi h1 ne a ha h2
  have nonS : ∀ a ∈ foot rc, ¬ S a := fun a hf => by
    obtain ⟨m, q', h0, h1, h2⟩ := frc a hf
    exact ((s.good.slot _ _ h1).2.2 a h2).1
  have lstF : ∀ a ∈ foot rc, ∀ o, H a = some o → (∀ xs, o ≠ .tup xs) ∧ ∀ ob u, o ≠ .frz ob u := fun a hf o e => by
    obtain ⟨m, q', h0, h1, h2⟩ := frc a hf
    exact s.good.own_nt h1 h2 e
  have lstX : ∀ a ∈ foot rc, ∀ o, H a = some o → NTbl o := fun a hf o e => by
    obtain ⟨m, q', h0, h1, h2⟩ := frc a hf
    exact s.good.own_nx h1 h2 e
  have kp : ∀ F : List Addr, (∀ a ∈ F, a ∉ foot rc) → Kp H H' S F := fun F hF => ⟨fun a xs h => kept a _ h (fun z => (lstF a z _ h).1 xs rfl) nt_tup.1, fun a o u h => kept a _ h (fun z => (lstF a z _ h).2 o u rfl) nt_frz.1, fun a xs ha n h => kept a _ h (fun z => by
      rcases ha with ha | ha
      · exact nonS a z ha
      · exact hF a ha z) n.1, fun a φ h => kept a _ h (fun z => (lstX a z _ h).2 φ rfl) (fun _ z => nomatch z)⟩
  have hw : ∀ a, (H a = none ∨ a ∈ foot rc) → f.H0 a = none ∨ a ∈ f.W := fun a h => by
    rcases h with h | h
    · exact s.good.none_src h
    · obtain ⟨m, q', h0, h1, h2⟩ := frc a h
      exact ((s.good.slot _ _ h1).2.2 a h2).2
  have nS2 : ∀ a, ¬ S' a → (H a = none ∨ a ∈ foot rc) → ¬ (S a ∨ S' a) := fun a h1 h2 z => by
    rcases z with z | z
    · rcases h2 with h2 | h2
      · exact s.good.trk a z h2
      · exact nonS a h2 z
    · exact h1 z
  have oldS : ∀ {F : List Addr}, (∀ a ∈ F, a ∉ foot rc ∧ ¬ S a ∧ H a ≠ none) → ∀ a ∈ F, ¬ (S a ∨ S' a) := fun {F} hF a ha z => by
    obtain ⟨h1, h2, h3⟩ := hF a ha
    rcases z with z | z
    · exact h2 z
    · rcases G'.src a z with w | w | w
      · exact h2 w
      · exact h3 w
      · exact h1 w
  have thereN : ∀ {i : Nat} {q : Root}, (rs ++ (τ ++ ms))[i]? = some q → ∀ a ∈ q.F, H a ≠ none := fun hi a ha z => by
    obtain ⟨xs, w⟩ := s.good.own_there hi ha
    rw [z] at w; cases w
  -- the roots behind the call
  have hjU : ∀ {i x : Nat}, U.lookup i = some x → i ∈ js := fun {i x} h => by
    by_cases hj : i ∈ js
    · exact hj
    · have := (o1 i hj).2
      rw [show U.lookup i = none from this] at h; cases h
  have getN : ∀ {i : Nat} {r : Root}, (rs.mapIdx (newR js U rs'))[i]? = some r → ∃ r0, rs[i]? = some r0 ∧ r = newR js U rs' i r0 := fun {i r} h => by
    rw [List.getElem?_mapIdx] at h
    cases q : rs[i]? with
    | none => rw [q] at h; cases h
    | some r0 => rw [q] at h; exact ⟨r0, rfl, (Option.some.inj h).symm⟩
  -- the two kinds of root
  have two : ∀ {i : Nat} {r : Root}, (rs.mapIdx (newR js U rs') ++ τ)[i]? = some r →
      (∃ (x : Nat) (q : Root) (r0 : Root), U.lookup i = some x ∧ rs'[x]? = some q ∧ r.F = q.F ∧ rs[i]? = some r0 ∧ r.o = r0.o ∧ r.e = r0.e.put q.e.treeIo ∧ (∃ (n : Nat) (t t' : T) (v : V) (F : List Addr), q = ⟨.io n t', some v, F⟩ ∧ r0.e.own = some (n, t) ∧ r0.o = some v)) ∨
      (∃ q, (rs ++ (τ ++ ms))[i]? = some q ∧ i ∉ js ∧ i < (rs ++ τ).length ∧ ((r.e = .no ∧ r.F = []) ∨ (r = q ∧ ∀ t, q.e ≠ .ro t))) := fun {i r} h => by
    by_cases hlt : i < rs.length
    · rw [List.getElem?_append_left (by rw [List.length_mapIdx]; exact hlt)] at h
      obtain ⟨r0, h1, h2⟩ := getN h
      cases hU : U.lookup i with
      | some x =>
        left
        obtain ⟨n0, t0, t', v', F', x', e, a1, a2, a3, a4, a5, a6⟩ := o2 i (hjU hU)
        have ex : x = x' := by
          have a5 : U.lookup i = some (0 + x') := a5
          rw [hU] at a5
          have := Option.some.inj a5
          omega
        subst ex
        obtain ⟨r1, b1, b2, b3, b4⟩ := s.get a1
        rw [h1] at b4
        have b4 := Option.some.inj b4
        subst b4
        have er : r = ⟨r0.e.put t', r0.o, F'⟩ := by
          rw [h2]
          unfold newR
          rw [hU]
          simp only [a6]
          rfl
        refine ⟨x, _, r0, rfl, a6, by rw [er], h1, by rw [er], by rw [er]; rfl, n0, t0, t', v', F', rfl, by rw [b2]; exact a2, ?_⟩
        rw [a3] at b3
        exact (Option.some.inj b3).symm
      | none =>
        right
        have hj : i ∉ js := fun z => by
          obtain ⟨_, _, _, _, _, x', _, _, _, _, _, a5, _⟩ := o2 i z
          rw [show U.lookup i = some (0 + x') from a5] at hU; cases hU
        refine ⟨r0, getElem?_app h1, hj, by rw [List.length_append]; omega, ?_⟩
        have er : r = ⟨noRo js r0.e, r0.o, if (noRo js r0.e).tr.isSome then r0.F else []⟩ := by
          rw [h2]; unfold newR; rw [hU]
        rcases noRo_cases js r0.e with z | z
        · cases e0 : r0.e with
          | no =>
            left
            rw [er, z, e0]
            exact ⟨rfl, rfl⟩
          | ro t => rw [e0] at z; cases z
          | ow a b =>
            right
            have : (noRo js r0.e).tr.isSome = true := by rw [z, e0]; rfl
            rw [er, if_pos this, z]
            exact ⟨rfl, fun t z => by first | cases z | (rw [e0] at z; cases z)⟩
          | io a b =>
            right
            have : (noRo js r0.e).tr.isSome = true := by rw [z, e0]; rfl
            rw [er, if_pos this, z]
            exact ⟨rfl, fun t z => by first | cases z | (rw [e0] at z; cases z)⟩
          | al a b c =>
            right
            have : (noRo js r0.e).tr.isSome = true := by rw [z, e0]; rfl
            rw [er, if_pos this, z]
            exact ⟨rfl, fun t z => by first | cases z | (rw [e0] at z; cases z)⟩
        · left
          rw [er, z]
          exact ⟨rfl, rfl⟩
    · right
      have hl := (List.getElem?_eq_some_iff.mp h).1
      rw [List.length_append, List.length_mapIdx] at hl
      rw [List.getElem?_append_right (by rw [List.length_mapIdx]; omega), List.length_mapIdx] at h
      refine ⟨r, ?_, fun z => hlt (hoff i z), by rw [List.length_append]; omega, .inr ⟨rfl, fun t z => ?_⟩⟩
      · rw [List.getElem?_append_right (by omega)]
        exact getElem?_app h
      · obtain ⟨n0, t0, w⟩ := s.tm r (List.mem_append_left _ (List.mem_of_getElem? h))
        rw [w] at z; cases z
  have gres : (rs' ++ [tmp n t v F0])[rs'.length]? = some (tmp n t v F0) := getElem?_last
  have gout : ∀ {x : Nat} {q : Root}, rs'[x]? = some q → (rs' ++ [tmp n t v F0])[x]? = some q := fun h => getElem?_app h
  refine ⟨fun a => S a ∨ S' a, rs.mapIdx (newR js U rs'), ⟨?_, ?_, ?_, ?_, ?_, tm_app (fun r h => s.tm r (List.mem_append_left _ h)) ⟨_, _, rfl⟩⟩⟩
  · -- entries
    refine List.ext_getElem? fun i => ?_
    rw [List.getElem?_map, List.getElem?_mapIdx, putL_get]
    unfold killJ
    rw [List.getElem?_map, ← s.e, List.getElem?_map]
    cases q : rs[i]? with
    | none => rfl
    | some r0 =>
      show some (newR js U rs' i r0).e = some _
      rw [Nat.zero_add]
      by_cases hj : i ∈ js
      · obtain ⟨n0, t0, t', v', F', x, e, a1, a2, a3, a4, a5, a6⟩ := o2 i hj
        have hU : U.lookup i = some x := by
          have : U.lookup i = some (0 + x) := a5
          rw [this]; congr 1; omega
        obtain ⟨r1, b1, b2, b3, b4⟩ := s.get a1
        rw [q] at b4
        have b4 := Option.some.inj b4
        subst b4
        unfold newR
        rw [hU, a4]
        simp only [a6]
        have : noRo (slsOf as) r0.e = r0.e := noRo_own _ _ (by rw [b2, a2]; exact fun z => nomatch z)
        rw [this]
        rfl
      · obtain ⟨a1, a2⟩ := o1 i hj
        unfold newR
        rw [show U.lookup i = none from a2, a1]
  · refine List.ext_getElem? fun i => ?_
    rw [List.getElem?_map, List.getElem?_mapIdx, ← s.o, List.getElem?_map]
    cases q : rs[i]? with
    | none => rfl
    | some r0 =>
      show some (newR js U rs' i r0).o = some r0.o
      unfold newR
      split
      · split <;> rfl
      · rfl
  · rw [← List.append_assoc]
    refine ⟨fun m r e => ?_, fun m l r q e1 e2 ne a ha hb => ?_, fun a h => ?_, fun a o h1 h2 => ?_, fun a h => ?_, G'.tb⟩
    · rcases app_old e with ⟨_, rfl⟩ | ⟨_, e⟩
      · obtain ⟨b1, b2, b3⟩ := G'.slot _ _ gres
        refine ⟨?_, b2, fun a ha => ⟨nS2 a (b3 a ha).1 (b3 a ha).2, hw a (b3 a ha).2⟩⟩
        obtain ⟨v', e, own⟩ := b1
        exact ⟨v', e, own.mono fun _ => .inr⟩
      · rcases two e with ⟨x, q, r0, hU, hx, hF, h0, ho, he, n0, t0, t', v', F', rfl, w1, w2⟩ | ⟨q, hq, hj, hl, h1⟩
        · obtain ⟨b1, b2, b3⟩ := G'.slot _ _ (gout hx)
          rw [hF]
          refine ⟨?_, b2, fun a ha => ⟨nS2 a (b3 a ha).1 (b3 a ha).2, hw a (b3 a ha).2⟩⟩
          obtain ⟨v'', e', own⟩ := b1
          have e' := Option.some.inj e'
          subst e'
          rw [he, ho, w2]
          exact slot_put w1 (own.mono fun _ => .inr)
        · rcases h1 with ⟨h1, h2⟩ | ⟨rfl, hr⟩
          · refine ⟨?_, by rw [h2]; exact List.nodup_nil, fun a z => by rw [h2] at z; cases z⟩
            rw [h1]; exact h2
          · obtain ⟨b1, b2, b3⟩ := s.good.slot _ _ hq
            have nf := nonf hq hj hl
            exact ⟨b1.keep (fun _ => .inl) (kp _ nf) (fun t z => absurd z (hr t)), b2, fun a ha => ⟨oldS (fun a ha => ⟨nf a ha, (b3 a ha).1, thereN hq a ha⟩) a ha, (b3 a ha).2⟩⟩
    · -- disjoint
      have D1 : ∀ {x : Nat} {q : Root}, (rs' ++ [tmp n t v F0])[x]? = some q → ∀ a ∈ q.F, H a = none ∨ a ∈ foot rc := fun hx a ha => ((G'.slot _ _ hx).2.2 a ha).2
      have D2 : ∀ {i : Nat} {q : Root}, (rs ++ (τ ++ ms))[i]? = some q → i ∉ js → i < (rs ++ τ).length → ∀ a ∈ q.F, ¬ (H a = none ∨ a ∈ foot rc) := fun hi hj hl a ha z => by
        rcases z with z | z
        · exact thereN hi a ha z
        · exact nonf hi hj hl a ha z
      have cls : ∀ {m : Nat} {r : Root}, (rs.mapIdx (newR js U rs') ++ τ ++ [tmp n t v F0])[m]? = some r → a ∈ r.F →
          (∃ (x : Nat) (q : Root), (rs' ++ [tmp n t v F0])[x]? = some q ∧ a ∈ q.F ∧ ((m = (rs.mapIdx (newR js U rs') ++ τ).length ∧ x = rs'.length) ∨ (U.lookup m = some x ∧ m < (rs.mapIdx (newR js U rs') ++ τ).length ∧ x < rs'.length))) ∨
          (∃ q, (rs ++ (τ ++ ms))[m]? = some q ∧ m ∉ js ∧ m < (rs ++ τ).length ∧ a ∈ q.F) := fun {m r} e ha => by
        rcases app_old e with ⟨e0, rfl⟩ | ⟨e0, e⟩
        · exact .inl ⟨rs'.length, _, gres, ha, .inl ⟨e0, rfl⟩⟩
        · rcases two e with ⟨x, q, r0, hU, hx, hF, _⟩ | ⟨q, hq, hj, hl, h1⟩
          · exact .inl ⟨x, q, gout hx, hF ▸ ha, .inr ⟨hU, e0, (List.getElem?_eq_some_iff.mp hx).1⟩⟩
          · rcases h1 with ⟨_, h2⟩ | ⟨rfl, _⟩
            · rw [h2] at ha; cases ha
            · exact .inr ⟨r, hq, hj, hl, ha⟩
      rcases cls e1 ha with ⟨x, q1, g1, g2, g3⟩ | ⟨q1, g1, g2, g3, g4⟩
      · rcases cls e2 hb with ⟨y, q2, h1, h2, h3⟩ | ⟨q2, h1, h2, h3, h4⟩
        · refine G'.dj x y q1 q2 g1 h1 (fun z => ?_) a g2 h2
          rcases g3 with ⟨g3, g5⟩ | ⟨g3, g5, g6⟩
          · rcases h3 with ⟨h3, h5⟩ | ⟨h3, h5, h6⟩
            · exact ne (g3.trans h3.symm)
            · omega
          · rcases h3 with ⟨h3, h5⟩ | ⟨h3, h5, h6⟩
            · omega
            · subst z
              exact ne (ixs_inj (lookup_mem g3) (lookup_mem h3))
        · exact D2 h1 h2 h3 a h4 (D1 g1 a g2)
      · rcases cls e2 hb with ⟨y, q2, h1, h2, h3⟩ | ⟨q2, h1, h2, h3, h4⟩
        · exact D2 g1 g2 g3 a g4 (D1 h1 a h2)
        · exact s.good.dj _ _ _ _ g1 h1 ne a g4 h4
    · rcases h with h | h
      · intro z
        cases q : H a with
        | none => exact s.good.trk a h q
        | some o =>
          exact (G'.fr a o q (fun w => nonS a w h)).sm z
      · exact G'.trk a h
    · refine (s.good.fr a o h1 h2).trans fun u hu => G'.fr a u hu fun w => by
        rcases hw a (.inr w) with z | z
        · rw [z] at h1; cases h1
        · exact h2 z
    · rcases h with h | h
      · exact s.good.src a h
      · rcases G'.src a h with w | w
        · exact s.good.src a w
        · exact .inr (hw a w)
  · intro k' j i u h
    rw [putL_get, Nat.zero_add] at h
    unfold killJ at h
    rw [List.getElem?_map] at h
    cases q : ρ[k']? with
    | none => rw [q] at h; cases h
    | some e0 =>
      rw [q] at h
      have h := Option.some.inj h
      have hk : k' ∉ js := fun z => by
        obtain ⟨n0, t0, t', v', F', x, e, a1, a2, a3, a4, a5, a6⟩ := o2 k' z
        rw [a4] at h
        rw [q] at a1
        have a1 := Option.some.inj a1
        subst a1
        have e1 : noRo (slsOf as) e0 = e0 := noRo_own _ _ (by rw [a2]; exact fun z => nomatch z)
        rw [e1] at h
        have h : e0.put t' = .al j i u := h
        have := put_own a2 t'
        rw [h] at this
        cases this
      rw [(o1 k' hk).1] at h
      have h : noRo js e0 = .al j i u := h
      have hj : j ∉ js ∧ e0 = .al j i u := by
        cases e0 with
        | al a b c =>
          by_cases ha : a ∈ js
          · simp [noRo, ha] at h
          · simp [noRo, ha] at h
            obtain ⟨rfl, rfl, rfl⟩ := h
            exact ⟨ha, rfl⟩
        | no => cases h
        | ow _ _ => cases h
        | io _ _ => cases h
        | ro _ => cases h
      obtain ⟨hj, rfl⟩ := hj
      obtain ⟨r, n', U', w0, w1, Fi, a1, a2, a3, a4, a5, a6, a7⟩ := (s.al k' j i u q).ex
      have hU : U.lookup j = none := (o1 j hj).2
      have g5 : (rs ++ (τ ++ ms))[j]? = some r := getElem?_app a1
      have hlj : j < (rs ++ τ).length := by
        have := (List.getElem?_eq_some_iff.mp a1).1
        rw [List.length_append]; omega
      have nf := nonf g5 hj hlj
      have er : newR js U rs' j r = r := by
        unfold newR
        rw [hU]
        have e1 : noRo js r.e = r.e := noRo_own _ _ (by rw [a2]; exact fun z => nomatch z)
        have e2 : r.e.tr.isSome = true := by cases e3 : r.e <;> rw [e3] at a2 <;> first | rfl | cases a2
        simp only [e1, e2]
        rfl
      refine ⟨⟨r, n', U', w0, w1, Fi, by rw [List.getElem?_mapIdx, a1]; show some (newR js U rs' j r) = some r; rw [er], a2, a3, a4, ?_, ?_, a7⟩⟩
      · obtain ⟨w0', e3, own3⟩ := (s.good.slot _ _ g5).1.own a2
        rw [a3] at e3
        have e3 := Option.some.inj e3
        subst e3
        generalize r.F = G at own3 nf
        cases a5 with
        | nd b1 b0 b2 b3 b4 =>
          cases own3 with
          | nd _ _ _ => exact .nd (kept _ _ b1 (nf _ List.mem_cons_self) b0.nt.1) b0 b2 b3 (by cases b4; exact .nil)
        | tup b1 b2 b3 b4 => exact .tup ((kp [] (fun _ z => nomatch z)).tup _ _ b1) b2 b3 (by cases b4; exact .nil)
      · exact a6.keep (fun _ => .inl) (kp _ fun a ha => nf a (a7 a ha))
  · intro i n' u h
    rw [putL_get, Nat.zero_add] at h
    unfold killJ at h
    rw [List.getElem?_map] at h
    cases q : ρ[i]? with
    | none => rw [q] at h; cases h
    | some e0 =>
      rw [q] at h
      have h := Option.some.inj h
      by_cases hk : i ∈ js
      · obtain ⟨n0, t0, t', v', F', x, e, a1, a2, a3, a4, a5, a6⟩ := o2 i hk
        rw [a4] at h
        rw [q] at a1
        have a1 := Option.some.inj a1
        subst a1
        have e1 : noRo (slsOf as) e0 = e0 := noRo_own _ _ (by rw [a2]; exact fun z => nomatch z)
        rw [e1] at h
        have h : e0.put t' = .io n' u := h
        have e2 := put_io a2 h
        subst e2
        exact s.io i _ _ q
      · rw [(o1 i hk).1] at h
        have h : noRo (slsOf as) e0 = .io n' u := h
        rcases noRo_cases (slsOf as) e0 with z | z
        · rw [z] at h; exact s.io i n' u (by rw [q, h])
        · rw [z] at h; cases h
end
end TL
set_option Elab.async false
set_option linter.all false
set_option maxRecDepth 100000
namespace TL
open PySem PySem.Spec PyProof.Rows L2
section
variable {K : PySem.W.Frag} {f : Fm} {S S' : Addr → Prop} {H H' : Hp} {τ τ' ms rs rs' : List Root} {ρ ρ' : List Ent} {σ : St}
/-- a fresh owned value held -/
theorem StaW.pushF (s : StaW K f τ ρ σ H S rs) (hs : Same H H') {n : Nat} {t : T} {v : V} {F : List Addr} (own : Own K H' S n t v F) (nd : F.Nodup) (hF : ∀ a ∈ F, H a = none) : StaW K f (τ ++ [tmp n t v F]) ρ σ H' S rs := by
  have s' := s.same hs
  refine ⟨s.e, s.o, ?_, s'.al, s.io, tm_app s.tm ⟨_, _, rfl⟩⟩
  rw [← List.append_assoc]
  have nw : ∀ {m : Nat} {r : Root} {a : Addr}, (rs ++ τ)[m]? = some r → a ∈ F → a ∉ r.F := fun e ha hm => by
    obtain ⟨vs, q⟩ := s.good.own_there e hm
    rw [hF _ ha] at q; cases q
  exact {
    slot := fun m r e => by
      rcases app_old e with ⟨_, rfl⟩ | ⟨_, e⟩
      · exact ⟨⟨v, rfl, own⟩, nd, fun a z => ⟨fun y => s.good.trk a y (hF a z), s.good.none_src (hF a z)⟩⟩
      · exact s'.good.slot m r e
    dj := fun m l r q e1 e2 ne a ha hb => by
      rcases app_old e1 with ⟨d1, rfl⟩ | ⟨_, g1⟩
      · rcases app_old e2 with ⟨d2, rfl⟩ | ⟨_, g2⟩
        · exact ne (d1.trans d2.symm)
        · exact nw g2 ha hb
      · rcases app_old e2 with ⟨_, rfl⟩ | ⟨_, g2⟩
        · exact nw g1 hb ha
        · exact s.good.dj m l r q g1 g2 ne a ha hb
    trk := s'.good.trk
    fr := s'.good.fr
    src := s.good.src
    tb := s'.good.tb }
end
section
variable {X : Cx} {e a b c : Expr} {es : List Expr} {pos p p2 : Pos} {w wa wb : List Ent → (T → Prop) → Prop} {wA : List Ent → (List T → Prop) → Prop} {v va vb : List Ent → (Nat → T → List Ent → Prop) → Prop}
/-! ### calls held -/
structure TCA (X : Cx) (as : List AR) (es : List Expr) (w : List Ent → (List T → List Ent → Prop) → Prop) : Prop where
  ok : ∃ tt : TA, PA X es tt ∧ ∀ (f : Fm) (τ : List Root) (ρ : List Ent) (σ : St) (H : Hp) (Q : List V → Hp → Prop) (R : List T → List Ent → Prop), Sta X.K f τ ρ σ H → w ρ R → (∀ ts ρ' vs ms H', R ts ρ' → Cms σ as ts vs ms → Sta X.K f (τ ++ ms) ρ' σ H' → Q vs H') → tt σ H Q
variable {as : List AR} {vC : List Ent → (List T → List Ent → Prop) → Prop}
theorem tca_nil : TCA X [] [] (vaNil) := ⟨⟨_, pa_nil, fun f τ ρ σ H Q R hs hw hq => hq [] ρ [] [] H hw .nil (by rw [List.append_nil]; exact hs)⟩⟩
theorem tca_tv (k : Nat) (ha : TVE X e v) (hr : TCA X as es vC) (hs : starEach (e :: es) X.env = (false, eval e X.env) :: starEach es X.env := by rfl) :
    TCA X (.tv k :: as) (e :: es) (vaCons k v vC) := by
  obtain ⟨ta, pa, ka⟩ := ha.ok
  obtain ⟨tb, pb, kb⟩ := hr.ok
  refine ⟨⟨_, pa_cons pa pb hs, fun f τ ρ σ H Q R hs hw hq => ?_⟩⟩
  refine ka f τ ρ σ H _ _ hs hw fun n t ρ' v F H1 h1 s1 => ?_
  obtain ⟨S, rs, s⟩ := s1
  obtain ⟨F', S', _, s'⟩ := s.fitV h1.1
  refine kb f (τ ++ [tmp k t v F']) ρ' σ H1 _ _ ⟨S', rs, s'⟩ h1.2 fun ts ρ'' vs ms H2 h2 hm s2 => ?_
  refine hq (t :: ts) ρ'' (v :: vs) (tmp k t v F' :: ms) H2 h2 (.tv hm) ?_
  have e : τ ++ [tmp k t v F'] ++ ms = τ ++ tmp k t v F' :: ms := by simp
  rw [← e]
  exact s2
def cSl (j : Nat) (vC : List Ent → (List T → List Ent → Prop) → Prop) : List Ent → (List T → List Ent → Prop) → Prop := fun ρ R => (ρ[j]?.bind Ent.own).isSome = true ∧ vC ρ fun ts ρ'' => R (.non :: ts) ρ''
theorem tca_sl (j : Nat) {x : Str} (hr : TCA X as es vC) (hN : X.N[j]? = some x := by rfl) (hv : Vis X.env.scope x := by first | exact Or.inl rfl | exact Or.inr (Or.inl rfl) | exact Or.inr (Or.inr rfl)) (hd : (x == ("__debug__" : Str)) = false := by decide)
    (hcd : (x == ("__classdict__" : Str)) = false := by decide) (hs : starEach (.Name x pos :: es) X.env = (false, eval (.Name x pos) X.env) :: starEach es X.env := by rfl) :
    TCA X (.sl j :: as) (.Name x pos :: es) (cSl j vC) := by
  obtain ⟨tb, pb, kb⟩ := hr.ok
  refine ⟨⟨_, pa_cons (pe_var hN hv hd hcd) pb hs, fun f τ ρ σ H Q R hs hw hq => ?_⟩⟩
  obtain ⟨h1, h2⟩ := hw
  have hv : ∃ v, σ[j]? = some (some v) := by
    obtain ⟨S, rs, s⟩ := hs
    cases q : ρ[j]? with
    | none => rw [q] at h1; cases h1
    | some e0 =>
      rw [q] at h1
      cases q2 : e0.own with
      | none =>
        have h1 : e0.own.isSome = true := h1
        rw [q2] at h1; cases h1
      | some nt =>
        obtain ⟨n, t⟩ := nt
        obtain ⟨r, g1, g2, g3, g4⟩ := s.get q
        obtain ⟨v, ev, _⟩ := (s.good.slot _ _ g1).1.own (n := n) (t := t) (by rw [g2]; exact q2)
        exact ⟨v, by rw [g3, ev]⟩
  obtain ⟨v, hv⟩ := hv
  refine ⟨v, hv, kb f τ ρ σ H _ _ hs h2 fun ts ρ'' vs ms H2 h3 hm s2 => ?_⟩
  exact hq (.non :: ts) ρ'' (v :: vs) ms H2 h3 (.sl hv hm) s2
-- a continuation that simp is to leave alone
def KDep (R : Nat → T → List Ent → Prop) : Type := Unit
def callAt (ps : List Par) (as : List AR) (W : FnT) (R : Nat → T → List Ent → Prop) (_ : KDep R) (ts : List T) (ρ' : List Ent) : Prop := match inT ρ' ps as ts with
  | some us => W us fun n t outs => R n t (putL (ups ps as outs) 0 (killJ (slsOf as) ρ'))
  | none => False
def wCallV (ps : List Par) (as : List AR) (W : FnT) (vC : List Ent → (List T → List Ent → Prop) → Prop) : List Ent → (Nat → T → List Ent → Prop) → Prop := fun ρ R => vC ρ (callAt ps as W R ())
theorem tv_call {x : Str} {fa : Addr} {fd : FuncData} {qs : List Str} {k : Nat} {ps : List Par} {W : FnT} (F : FnOk X.prog X.w X.K X.mg X.base CX0 k fa fd qs (spT X.K ps W)) (hr : Room k X.A) (hg : Gl X x) (hm : X.mg x = some (.ref fa)) (hk : PySem.W.keepIn X.K (.ref fa) = true) (hb : Binds X.K fd qs [])
    (ha : TCA X as (e :: es) vC) (hnd : (slsOf as).Nodup := by decide) (hdb : (x == ("__debug__" : Str)) = false := by decide) (he : starEach (e :: es) X.env = (false, eval e X.env) :: starEach es X.env := by rfl) (hpl : (backTo pos (starEach es X.env)).any (·.1) = false := by rfl) :
    TVE X (.Call (.Name x p) (e :: es) [] pos) (wCallV ps as W vC) := by
  obtain ⟨ta, pa, ka⟩ := ha.ok
  refine ⟨⟨_, pe_call F hr hg hm hk hb .nil pass0 pa hdb he hpl, fun f τ ρ σ H Q R hs hw hq => ?_⟩⟩
  refine ka f τ ρ σ H _ _ hs hw fun ts ρ' vs ms H1 h1 hm s1 => ?_
  rw [List.append_nil]
  obtain ⟨S, rs, s⟩ := s1
  have h1 : (match inT ρ' ps as ts with
    | some us => W us fun n t outs => R n t (putL (ups ps as outs) 0 (killJ (slsOf as) ρ'))
    | none => False) := h1
  cases q : inT ρ' ps as ts with
  | none => rw [q] at h1; exact h1.elim
  | some us =>
    rw [q] at h1
    exact call_core s hm q hnd h1 fun n t outs v F H' hR hs' => hq n t _ v F H' hR hs'
def vCallN (m : Nat) (W : FnT) (wA : List Ent → (List T → Prop) → Prop) : List Ent → (Nat → T → List Ent → Prop) → Prop := fun ρ R => wA ρ fun ts => ts.length = m ∧ W ts fun n t _ => t.flatAt n = true ∧ R n t ρ
/-- a call that only reads; what it hands back is new, as deep as it is owned -/
theorem tv_callN {x : Str} {fa : Addr} {fd : FuncData} {qs : List Str} {k m : Nat} {W : FnT} (F : FnOk X.prog X.w X.K X.mg X.base CX0 k fa fd qs (spT X.K (allSh m) W)) (hr : Room k X.A) (hg : Gl X x) (hm : X.mg x = some (.ref fa)) (hk : PySem.W.keepIn X.K (.ref fa) = true) (hb : Binds X.K fd qs [])
    (ha : TPA X (e :: es) wA) (hdb : (x == ("__debug__" : Str)) = false := by decide) (he : starEach (e :: es) X.env = (false, eval e X.env) :: starEach es X.env := by rfl) (hpl : (backTo pos (starEach es X.env)).any (·.1) = false := by rfl) :
    TVE X (.Call (.Name x p) (e :: es) [] pos) (vCallN m W wA) := by
  obtain ⟨ta, pa, ka⟩ := ha.ok
  refine ⟨⟨_, pe_call F hr hg hm hk hb .nil pass0 pa hdb he hpl, fun f τ ρ σ H Q R hs hw hq => ?_⟩⟩
  refine ka _ ρ σ H _ _ hs.rdAll hw fun ts vs H1 h1 s1 x1 => ?_
  rw [List.append_nil]
  obtain ⟨S, rs, s⟩ := hs.same s1
  refine spT_pure x1 s.good.tb h1.1.symm h1.2 fun n t v H2 S' F0 h2 s2 own hS hF nd hd => ?_
  exact hq n t ρ v F0 H2 h2.2 ⟨S, rs, s.pushF s2 (own.anyS h2.1 S) nd hF⟩
/-! ### operators on held values -/
theorem Sta.last2 {K : PySem.W.Frag} {f : Fm} {τ : List Root} {ρ : List Ent} {σ : St} {H : Hp} {n : Nat} {t : T} {v : V} {F : List Addr} (s : Sta K f (τ ++ [tmp n t v F]) ρ σ H) : Shr K H (fun _ => True) t v := by
  obtain ⟨S, rs, s⟩ := s
  have g : (rs ++ (τ ++ [tmp n t v F]))[(rs ++ τ).length]? = some (tmp n t v F) := by rw [← List.append_assoc]; exact getElem?_last
  obtain ⟨v', e, own⟩ := (s.good.slot _ _ g).1
  have e := Option.some.inj e
  subst e
  exact own.shr (fun _ _ => trivial) (fun _ _ => trivial)
def v2 (g : F2) (va vb : List Ent → (Nat → T → List Ent → Prop) → Prop) : List Ent → (Nat → T → List Ent → Prop) → Prop := fun ρ R => va ρ fun _ x ρ1 => vb ρ1 fun _ y ρ2 => g x y fun z => z.flat = true ∧ R 0 z ρ2
theorem vtwo {ta tb : TE} (ka : ∀ (f : Fm) (τ : List Root) (ρ : List Ent) (σ : St) (H : Hp) (Q : VK) (R : Nat → T → List Ent → Prop), Sta X.K f τ ρ σ H → va ρ R → (∀ n t ρ' v F H', R n t ρ' → Sta X.K f (τ ++ [tmp n t v F]) ρ' σ H' → Q v H') → ta σ H Q)
    (kb : ∀ (f : Fm) (τ : List Root) (ρ : List Ent) (σ : St) (H : Hp) (Q : VK) (R : Nat → T → List Ent → Prop), Sta X.K f τ ρ σ H → vb ρ R → (∀ n t ρ' v F H', R n t ρ' → Sta X.K f (τ ++ [tmp n t v F]) ρ' σ H' → Q v H') → tb σ H Q)
    {r : R2} {g : F2} (hg : OpT X.K r g) {f : Fm} {τ : List Root} {ρ : List Ent} {σ : St} {H : Hp} {Q : VK} {R : Nat → T → List Ent → Prop} (hs : Sta X.K f τ ρ σ H) (hw : v2 g va vb ρ R) (hq : ∀ n t ρ' v F H', R n t ρ' → Sta X.K f (τ ++ [tmp n t v F]) ρ' σ H' → Q v H') : tOp r ta tb σ H Q := by
  refine ka f τ ρ σ H _ _ hs hw fun n t ρ1 v1 F1 H1 h1 s1 => ?_
  refine kb f (τ ++ [tmp n t v1 F1]) ρ1 σ H1 _ _ s1 h1 fun n2 u ρ2 v3 F2 H2 h2 s2 => ?_
  refine hg _ H2 v1 v3 t u Q _ s2.pop.last2 s2.last2 h2 fun z v4 H3 h3 s3 x3 => ?_
  obtain ⟨S, rs, s⟩ := s2.pop.pop.same s3
  exact hq 0 z ρ2 v4 [] H3 h3.2 ⟨S, rs, s.pushS ((x3.flat0 h3.1).2 0 S)⟩
theorem tv_op {op : Operator} {r : R2} {g : F2} (ho : OpR X (binaryOp op) r) (hg : OpT X.K r g) (ha : TVE X a va) (hb : TVE X b vb) : TVE X (.BinOp a op b pos) (v2 g va vb) := by
  obtain ⟨ta, pa, ka⟩ := ha.ok
  obtain ⟨tb, pb, kb⟩ := hb.ok
  exact ⟨⟨_, pe_op ho pa pb, fun f τ ρ σ H Q R hs hw hq => vtwo ka kb hg hs hw hq⟩⟩
theorem tv_cmp {op : CmpOp} {r : R2} {g : F2} (ho : OpR X (compareOp op) r) (hg : OpT X.K r g) (ha : TVE X a va) (hb : TVE X b vb) (hm : behindInMarks op b = false) : TVE X (.Compare a [op] [b] pos) (v2 g va vb) := by
  obtain ⟨ta, pa, ka⟩ := ha.ok
  obtain ⟨tb, pb, kb⟩ := hb.ok
  exact ⟨⟨_, pe_cmpR ho pa pb hm, fun f τ ρ σ H Q R hs hw hq => vtwo ka kb hg hs hw hq⟩⟩
def v1 (g : F1) (va : List Ent → (Nat → T → List Ent → Prop) → Prop) : List Ent → (Nat → T → List Ent → Prop) → Prop := fun ρ R => va ρ fun _ x ρ1 => g x fun z => z.flat = true ∧ R 0 z ρ1
theorem tv_un {op : UnaryOp} {r : V → Hp → VK → Prop} {g : F1} (ho : UnR X (unaryOp op) r) (hg : UnT X.K r g) (ha : TVE X a va) : TVE X (.UnaryOp op a pos) (v1 g va) := by
  obtain ⟨ta, pa, ka⟩ := ha.ok
  refine ⟨⟨_, pe_un ho pa, fun f τ ρ σ H Q R hs hw hq => ?_⟩⟩
  refine ka f τ ρ σ H _ _ hs hw fun n t ρ1 v1 F1 H1 h1 s1 => ?_
  refine hg _ H1 v1 t Q _ s1.last2 h1 fun z v4 H3 h3 s3 x3 => ?_
  obtain ⟨S, rs, s⟩ := s1.pop.same s3
  exact hq 0 z ρ1 v4 [] H3 h3.2 ⟨S, rs, s.pushS ((x3.flat0 h3.1).2 0 S)⟩
/-- a built-in call on held values -/
theorem tms_shrs {K : PySem.W.Frag} {S : Addr → Prop} {H : Hp} {rs : List Root} (G : ∀ (i : Nat) r, rs[i]? = some r → SlotR K H S r.e r.o r.F) : ∀ {ks : List Nat} {ts : List T} {vs : List V} {ms : List Root}, Tms ks ts vs ms → (∀ r ∈ ms, ∃ i : Nat, rs[i]? = some r) → Shrs K H (fun _ => True) ts vs
  | _, _, _, _, .nil, _ => .nil
  | _, _, _, _, .cons h, hm => by
    obtain ⟨i, hi⟩ := hm _ List.mem_cons_self
    obtain ⟨v', e, own⟩ := G i _ hi
    have e := Option.some.inj e
    subst e
    exact Shrs.cons (own.shr (fun _ _ => trivial) (fun _ _ => trivial)) (tms_shrs G h fun r hr => hm r (List.mem_cons_of_mem _ hr))
theorem Sta.shrs {K : PySem.W.Frag} {f : Fm} {τ ms : List Root} {ρ : List Ent} {σ : St} {H : Hp} {ks : List Nat} {ts : List T} {vs : List V} (s : Sta K f (τ ++ ms) ρ σ H) (hm : Tms ks ts vs ms) : Shrs K H (fun _ => True) ts vs := by
  obtain ⟨S, rs, s⟩ := s
  refine tms_shrs (rs := rs ++ (τ ++ ms)) (fun i r e => (s.good.slot i r e).1) hm fun r hr => ?_
  exact List.mem_iff_getElem?.mp (List.mem_append_right _ (List.mem_append_right _ hr))
variable {ks : List Nat} {vA : List Ent → (List T → List Ent → Prop) → Prop}
def vCa (g : List T → (T → Prop) → Prop) (vA : List Ent → (List T → List Ent → Prop) → Prop) : List Ent → (Nat → T → List Ent → Prop) → Prop := fun ρ R => vA ρ fun ts ρ' => g ts fun z => z.flat = true ∧ R 0 z ρ'
theorem tv_callTy {x : Str} {id : String} {r : List V → Hp → VK → Prop} {g : List T → (T → Prop) → Prop} (hc : CallR X (.type id) r) (hgv : CaT X.K r g) (hg : Gl X x) (hm : X.mg x = none) (hv : bootBuiltins x = some (.type id)) (ha : TVA X ks (e :: es) vA) (hn : x ≠ "__name__" := by decide) (hdb : (x == ("__debug__" : Str)) = false := by decide)
    (he : starEach (e :: es) X.env = (false, eval e X.env) :: starEach es X.env := by rfl) (hpl : (backTo pos (starEach es X.env)).any (·.1) = false := by rfl) : TVE X (.Call (.Name x p) (e :: es) [] pos) (vCa g vA) := by
  obtain ⟨ta, pa, ka⟩ := ha.ok
  refine ⟨⟨_, pe_callTy hc hg hm hv pa hn hdb he hpl, fun f τ ρ σ H Q R hs hw hq => ?_⟩⟩
  refine ka f τ ρ σ H _ _ hs hw fun ts ρ' vs ms H1 h1 hm s1 => ?_
  refine hgv _ H1 vs ts Q _ (s1.shrs hm) h1 fun z v4 H3 h3 s3 x3 => ?_
  obtain ⟨S, rs, s⟩ := s1.pop.same s3
  exact hq 0 z ρ' v4 [] H3 h3.2 ⟨S, rs, s.pushS ((x3.flat0 h3.1).2 0 S)⟩
theorem tv_callB {x : Str} {id : String} {r : List V → Hp → VK → Prop} {g : List T → (T → Prop) → Prop} (hc : CallR X (.builtin id) r) (hgv : CaT X.K r g) (hg : Gl X x) (hm : X.mg x = none) (hv : bootBuiltins x = some (.builtin id)) (ha : TVA X ks (e :: es) vA) (hn : x ≠ "__name__" := by decide) (hdb : (x == ("__debug__" : Str)) = false := by decide)
    (he : starEach (e :: es) X.env = (false, eval e X.env) :: starEach es X.env := by rfl) (hpl : (backTo pos (starEach es X.env)).any (·.1) = false := by rfl) : TVE X (.Call (.Name x p) (e :: es) [] pos) (vCa g vA) := by
  obtain ⟨ta, pa, ka⟩ := ha.ok
  refine ⟨⟨_, pe_callB hc hg hm hv pa hn hdb he hpl, fun f τ ρ σ H Q R hs hw hq => ?_⟩⟩
  refine ka f τ ρ σ H _ _ hs hw fun ts ρ' vs ms H1 h1 hm s1 => ?_
  refine hgv _ H1 vs ts Q _ (s1.shrs hm) h1 fun z v4 H3 h3 s3 x3 => ?_
  obtain ⟨S, rs, s⟩ := s1.pop.same s3
  exact hq 0 z ρ' v4 [] H3 h3.2 ⟨S, rs, s.pushS ((x3.flat0 h3.1).2 0 S)⟩
/-- an item of a held list: the item alone is kept -/
def vIx (va vb : List Ent → (Nat → T → List Ent → Prop) → Prop) : List Ent → (Nat → T → List Ent → Prop) → Prop := fun ρ R => va ρ fun n x ρ1 => vb ρ1 fun _ y ρ2 => match x, y with
    | .nd .lst ts, .int i => match atI ts i with
      | some z => R (n - 1) z ρ2
      | none => False
    | .tup ts, .int i => match atI ts i with
      | some z => z.flat = true ∧ R 0 z ρ2
      | none => False
    | _, _ => False
theorem tv_ix (ha : TVE X a va) (hb : TVE X b vb) (hs : PlainIx b) : TVE X (.Subscript a b pos) (vIx va vb) := by
  obtain ⟨ta, pa, ka⟩ := ha.ok
  obtain ⟨tb, pb, kb⟩ := hb.ok
  refine ⟨⟨_, pe_ix ix_seq pa pb hs, fun f τ ρ σ H Q R hs hw hq => ?_⟩⟩
  refine ka f τ ρ σ H _ _ hs hw fun n t ρ1 v1 F1 H1 h1 s1 => ?_
  refine kb f (τ ++ [tmp n t v1 F1]) ρ1 σ H1 _ _ s1 h1 fun n2 u ρ2 v3 F2 H2 h2 s2 => ?_
  cases t using T.cs with
  | lst ts =>
    cases u with
    | int i =>
      have eu := shr_int s2.last2
      subst eu
      have s3 := s2.pop
      obtain ⟨S, rs, s⟩ := s3
      have gt : (rs ++ (τ ++ [tmp n (.lst ts) v1 F1]))[(rs ++ τ).length]? = some (tmp n (.lst ts) v1 F1) := by rw [← List.append_assoc]; exact getElem?_last
      obtain ⟨⟨v', e, own⟩, nd, q⟩ := s.good.slot _ _ gt
      have e := Option.some.inj e
      subst e
      simp only at h2
      split at h2
      · rename_i z hz
        have : ∃ (vs : List V) (p : Addr), v1 = .ref p ∧ SqL X.K H2 p vs ∧ ∃ vz Fz, atI vs i = some vz ∧ Own X.K H2 S (n - 1) z vz Fz ∧ (∀ b ∈ Fz, b ∈ F1) ∧ Fz.Nodup := by
          cases own with
          | @snd _ a vs ts q1 r =>
            obtain ⟨vz, e1, e2⟩ := shrs_at r hz
            exact ⟨vs, _, rfl, (sqN_lst.mp q1).sq, vz, [], e1, e2, (fun _ z => nomatch z), List.nodup_nil⟩
          | @nd n _ a o vs ts F q0 ki r =>
            have q1 : H2 a = some (.lst vs) := by
              obtain rfl : o = .lst vs := ki
              exact q0
            unfold atI at hz
            cases q2 : ixN ts.length i with
            | none => rw [q2] at hz; cases hz
            | some j =>
              rw [q2] at hz
              have hz : ts[j]? = some z := hz
              obtain ⟨vz, hvz⟩ := r.get hz
              obtain ⟨G1, Fi, G2, rfl, o, _⟩ := r.split hz hvz
              refine ⟨vs, a, rfl, SqL.of q1, vz, Fi, ?_, o, fun b hb => by simp [hb], ?_⟩
              · unfold atI
                rw [← r.length, q2]; exact hvz
              · exact (List.nodup_append.mp (List.nodup_append.mp (List.nodup_cons.mp nd).2).1).2.1
        obtain ⟨vs, p, rfl, hsq, vz, Fz, e1, o, hsub, ndz⟩ := this
        refine .inl ⟨p, vs, i, vz, rfl, rfl, hsq, e1, ?_⟩
        refine hq (n - 1) z ρ2 vz Fz H2 h2 ⟨S, rs, ⟨s.e, s.o, ?_, s.al, s.io, tm_app (fun r h => s.tm r (List.mem_append_left _ h)) ⟨_, _, rfl⟩⟩⟩
        rw [← List.append_assoc]
        have kr : ∀ G, Kp H2 H2 S G := fun _ => kp_refl
        refine s.good.repl (fun m => m) (rs ++ τ).length (r' := tmp (n - 1) z vz Fz) getElem?_last (fun m' q' hm h => ?_) (fun _ _ _ _ _ _ _ _ _ _ z => z) ⟨vz, rfl, o⟩ ndz (fun b hb => q b (hsub b hb))
          (fun b hb m' q' hm _ h => s.good.dj _ _ _ _ gt h (Ne.symm hm) b (hsub b hb)) (fun _ z => z) (fun m' q' hm _ h b hb => ((s.good.slot _ _ h).2.2 b hb).1) (fun m' q' hm _ _ => ⟨kr _, fun _ _ => kp_refl⟩) s.good.trk s.good.fr s.good.tb s.good.src
        right
        rcases app_old h with ⟨e1, _⟩ | ⟨_, e1⟩
        · exact absurd e1 hm
        · rw [← List.append_assoc]; exact getElem?_app e1
      · exact h2.elim
    | _ => exact h2.elim
  | tup ts =>
    cases u with
    | int i =>
      have eu := shr_int s2.last2
      subst eu
      have x1 := s2.pop.last2
      obtain ⟨p, vs, rfl, q, r⟩ := shr_tup x1
      simp only at h2
      split at h2
      · rename_i z hz
        obtain ⟨vz, e1, e2⟩ := shrs_at r hz
        refine .inr (.inl ⟨p, vs, i, vz, rfl, rfl, q, e1, ?_⟩)
        obtain ⟨S, rs, s⟩ := s2.pop.pop
        exact hq 0 z ρ2 vz [] H2 h2.2 ⟨S, rs, s.pushS ((e2.flat0 h2.1).2 0 S)⟩
      · exact h2.elim
    | _ => exact h2.elim
  | _ => exact h2.elim
end
end TL
set_option Elab.async false
set_option linter.all false
set_option maxRecDepth 100000
namespace TL
open PySem PySem.Spec PyProof.Rows L2
section
variable {X : Cx} {W : WX} {e a b c : Expr} {es rest : List Expr} {pos p p2 pos' : Pos} {w wa wb : List Ent → (T → Prop) → Prop} {v va vb : List Ent → (Nat → T → List Ent → Prop) → Prop} {wt : List Ent → (Bool → Prop) → Prop} {vt vt2 : List Ent → (Bool → List Ent → Prop) → Prop}
/-! ### tests -/
def tP (wt : List Ent → (Bool → Prop) → Prop) : List Ent → (Bool → List Ent → Prop) → Prop := fun ρ R => wt ρ fun b => R b ρ
theorem tvt_p (h : TPT X e wt) : TVT X e (tP wt) := by
  obtain ⟨ta, pa, ka⟩ := h.ok
  refine ⟨⟨ta, pa, fun f τ ρ σ H Q R hs hw hq => ?_⟩⟩
  exact ka _ ρ σ H _ _ hs.rdAll hw fun b H1 h1 s1 => hq b ρ H1 h1 (hs.same s1)
def vT (v : List Ent → (Nat → T → List Ent → Prop) → Prop) : List Ent → (Bool → List Ent → Prop) → Prop := fun ρ R => v ρ fun _ t ρ' => asB t fun b => R b ρ'
theorem tvt_val (ha : TVE X a va) (he : ∀ whole, isTrue a X.env whole = (do let v ← whole; standAt a.pos; holding [v] (truthy v)) := by intro _; rfl) : TVT X a (vT va) := by
  obtain ⟨ta, pa, ka⟩ := ha.ok
  refine ⟨⟨_, pt_val pa he, fun f τ ρ σ H Q R hs hw hq => ka f τ ρ σ H _ _ hs hw fun n t ρ1 v1 F1 H1 h1 s1 => ?_⟩⟩
  obtain ⟨k, e, h⟩ := asB_ok s1.last2 h1
  exact ⟨k, e, hq k ρ1 H1 h s1.pop⟩
theorem tvt_cmp {op : CmpOp} {r : R2} {g : F2} (ho : OpR X (compareOp op) r) (hg : OpT X.K r g) (ha : TVE X a va) (hb : TVE X b vb) (hm : behindInMarks op b = false) : TVT X (.Compare a [op] [b] pos) (vT (v2 g va vb)) := by
  obtain ⟨ta, pa, ka⟩ := ha.ok
  obtain ⟨tb, pb, kb⟩ := hb.ok
  refine ⟨⟨_, pt_cmpR ho pa pb hm, fun f τ ρ σ H Q R hs hw hq => vtwo (va := va) (vb := vb) ka kb hg hs (R := fun _ t ρ' => asB t fun b => R b ρ') hw fun n t ρ1 v1 F1 H1 h1 s1 => ?_⟩⟩
  obtain ⟨k, e, h⟩ := asB_ok s1.last2 h1
  exact ⟨k, e, hq k ρ1 H1 h s1.pop⟩
def vAnd (w1 w2 : List Ent → (Bool → List Ent → Prop) → Prop) : List Ent → (Bool → List Ent → Prop) → Prop := fun ρ R => w1 ρ fun b ρ1 => if b = true then w2 ρ1 R else R false ρ1
def vOr (w1 w2 : List Ent → (Bool → List Ent → Prop) → Prop) : List Ent → (Bool → List Ent → Prop) → Prop := fun ρ R => w1 ρ fun b ρ1 => if b = true then R true ρ1 else w2 ρ1 R
def vNot (w1 : List Ent → (Bool → List Ent → Prop) → Prop) : List Ent → (Bool → List Ent → Prop) → Prop := fun ρ R => w1 ρ fun b ρ1 => R (!b) ρ1
theorem TVW.pt (h : TVW X e vt) : TVT X e vt := by
  obtain ⟨ta, pa, ka⟩ := h.ok
  exact ⟨⟨_, pa.pt, ka⟩⟩
theorem tvw_and1 (ha : TVT X a vt) : TVW X (.BoolOp .And [a] pos) vt := by
  obtain ⟨ta, pa, ka⟩ := ha.ok
  exact ⟨⟨_, pw_and1 pa, ka⟩⟩
theorem tvw_or1 (ha : TVT X a vt) : TVW X (.BoolOp .Or [a] pos) vt := by
  obtain ⟨ta, pa, ka⟩ := ha.ok
  exact ⟨⟨_, pw_or1 pa, ka⟩⟩
theorem tvw_and (ha : TVT X a vt) (hb : TVW X (.BoolOp .And (b :: rest) pos) vt2) : TVW X (.BoolOp .And (a :: b :: rest) pos) (vAnd vt vt2) := by
  obtain ⟨ta, pa, ka⟩ := ha.ok
  obtain ⟨tb, pb, kb⟩ := hb.ok
  refine ⟨⟨_, pw_and pa pb, fun f τ ρ σ H Q R hs hw hq => ?_⟩⟩
  refine ka f τ ρ σ H _ _ hs hw fun k ρ1 H1 h1 s1 => ?_
  cases k with
  | true => exact kb f τ ρ1 σ H1 _ _ s1 h1 hq
  | false => exact hq false ρ1 H1 h1 s1
theorem tvw_or (ha : TVT X a vt) (hb : TVW X (.BoolOp .Or (b :: rest) pos) vt2) : TVW X (.BoolOp .Or (a :: b :: rest) pos) (vOr vt vt2) := by
  obtain ⟨ta, pa, ka⟩ := ha.ok
  obtain ⟨tb, pb, kb⟩ := hb.ok
  refine ⟨⟨_, pw_or pa pb, fun f τ ρ σ H Q R hs hw hq => ?_⟩⟩
  refine ka f τ ρ σ H _ _ hs hw fun k ρ1 H1 h1 s1 => ?_
  cases k with
  | true => exact hq true ρ1 H1 h1 s1
  | false => exact kb f τ ρ1 σ H1 _ _ s1 h1 hq
theorem tvt_not (ha : TVT X a vt) : TVT X (.UnaryOp .Not a pos) (vNot vt) := by
  obtain ⟨ta, pa, ka⟩ := ha.ok
  refine ⟨⟨_, pt_not pa, fun f τ ρ σ H Q R hs hw hq => ?_⟩⟩
  exact ka f τ ρ σ H _ _ hs hw fun k ρ1 H1 h1 s1 => hq (!k) ρ1 H1 h1 s1
def vIf (vt : List Ent → (Bool → List Ent → Prop) → Prop) (va vb : List Ent → (Nat → T → List Ent → Prop) → Prop) : List Ent → (Nat → T → List Ent → Prop) → Prop := fun ρ R => vt ρ fun k ρ1 => if k = true then va ρ1 R else vb ρ1 R
theorem tv_if (hc : TVT X c vt) (ha : TVE X a va) (hb : TVE X b vb) : TVE X (.IfExp c a b pos) (vIf vt va vb) := by
  obtain ⟨tc, pc, kc⟩ := hc.ok
  obtain ⟨ta, pa, ka⟩ := ha.ok
  obtain ⟨tb, pb, kb⟩ := hb.ok
  refine ⟨⟨_, pe_ifExp pc pa pb, fun f τ ρ σ H Q R hs hw hq => ?_⟩⟩
  refine kc f τ ρ σ H _ _ hs hw fun k ρ1 H1 h1 s1 => ?_
  cases k with
  | true => exact ka f τ ρ1 σ H1 _ _ s1 h1 hq
  | false => exact kb f τ ρ1 σ H1 _ _ s1 h1 hq
end
/-! ### statements -/
section
variable {X : Cx} {W : WX} {e a b c : Expr} {st : Stmt} {sts ss bs : List Stmt} {pos p p2 pos' : Pos} {w wa wb : List Ent → (T → Prop) → Prop} {v va vb : List Ent → (Nat → T → List Ent → Prop) → Prop} {vt : List Ent → (Bool → List Ent → Prop) → Prop} {u u1 u2 : TEnds → List Ent → Prop}
def uNext : TEnds → List Ent → Prop := fun De ρ => De.nx ρ
def uSeq (u1 u2 : TEnds → List Ent → Prop) : TEnds → List Ent → Prop := fun De ρ => u1 { De with nx := u2 De } ρ
theorem ts_nil : TSs X W [] uNext := ⟨⟨_, pss_nil, fun f τ ρ σ H De D hs hl hw => hl.nx ρ σ H hw hs⟩⟩
theorem ts_cons (h1 : TS1 X W st u1) (h2 : TSs X W sts u2) : TSs X W (st :: sts) (uSeq u1 u2) := by
  obtain ⟨t1, p1, k1⟩ := h1.ok
  obtain ⟨t2, p2, k2⟩ := h2.ok
  refine ⟨⟨_, pss_cons p1 p2, fun f τ ρ σ H De D hs hl hw => ?_⟩⟩
  exact k1 f τ ρ σ H { De with nx := u2 De } _ hs ⟨fun ρ σ H h s => k2 f τ ρ σ H De D s hl h, hl.rt, hl.bk, hl.ct, hl.xc⟩ hw
theorem ts_one (h1 : TS1 X W st u1) : TSs X W [st] u1 := by
  obtain ⟨t1, p1, k1⟩ := h1.ok
  exact ⟨⟨_, pss_one p1, k1⟩⟩
/-- a slot's list is from now on only read -/
def demE (js : List Nat) (ρ : List Ent) : List Ent := js.foldl (fun (ρ : List Ent) (j : Nat) => match ρ[j]? with
  | some (Ent.ow _ t) => setE ρ j (Ent.ow 0 t)
  | _ => ρ) ρ
theorem Sta.dem1 {K : PySem.W.Frag} {f : Fm} {τ : List Root} {ρ : List Ent} {σ : St} {H : Hp} (s : Sta K f τ ρ σ H) {j n : Nat} {t : T} (he : ρ[j]? = some (.ow n t)) : Sta K f τ (setE ρ j (.ow 0 t)) σ H := by
  obtain ⟨S, rs, s⟩ := s
  obtain ⟨v, F, rs', h1, s'⟩ := s.moveV he
  obtain ⟨F', S', _, s''⟩ := s'.fitV (k := 0) (.inl (Nat.zero_le _))
  have hj : j < (setE ρ j .no).length := by unfold setE killA; simp; exact (List.getElem?_eq_some_iff.mp he).1
  have z := s''.setV (i := j) hj
  have e1 : setE (setE ρ j .no) j (.ow 0 t) = setE ρ j (.ow 0 t) := by
    unfold setE killA
    rw [List.map_set, List.map_map, List.set_set]
    congr 1
    refine List.map_congr_left fun x _ => ?_
    show noAl j (noAl j x) = noAl j x
    rcases noAl_cases j x with h | ⟨k, t, h, h2⟩
    · rw [h, h]
    · rw [h2]; rfl
  have e2 : σ.set j (some v) = σ := set_self h1
  rw [e1, e2] at z
  exact ⟨S', _, z⟩
theorem Sta.dem {K : PySem.W.Frag} {f : Fm} {τ : List Root} {σ : St} {H : Hp} : ∀ (js : List Nat) {ρ : List Ent}, Sta K f τ ρ σ H → Sta K f τ (demE js ρ) σ H
  | [], _, s => s
  | j :: js, ρ, s => by
    unfold demE
    rw [List.foldl_cons]
    refine Sta.dem js ?_
    split
    · rename_i n t he
      exact s.dem1 he
    · exact s
def uDem (js : List Nat) (u : TEnds → List Ent → Prop) : TEnds → List Ent → Prop := fun De ρ => u De (demE js ρ)
theorem ts_dem (js : List Nat) (h : TSs X W sts u) : TSs X W sts (uDem js u) := by
  obtain ⟨t1, p1, k1⟩ := h.ok
  exact ⟨⟨_, p1, fun f τ ρ σ H De D hs hl hw => k1 f τ _ σ H De D (hs.dem js) hl hw⟩⟩
theorem ts1_dem (js : List Nat) (h : TS1 X W st u) : TS1 X W st (uDem js u) := by
  obtain ⟨t1, p1, k1⟩ := h.ok
  exact ⟨⟨_, p1, fun f τ ρ σ H De D hs hl hw => k1 f τ _ σ H De D (hs.dem js) hl hw⟩⟩
theorem ts_pass : TS1 X W (.Pass pos) uNext := ⟨⟨_, ps_pass, fun f τ ρ σ H De D hs hl hw => hl.nx ρ σ H hw hs⟩⟩
def uBrk : TEnds → List Ent → Prop := fun De ρ => De.bk ρ
theorem ts_break : TS1 X W (.Break pos) (uBrk) := ⟨⟨_, ps_break, fun f τ ρ σ H De D hs hl hw => hl.bk ρ σ H hw hs⟩⟩
def uCnt : TEnds → List Ent → Prop := fun De ρ => De.ct ρ
theorem ts_cont : TS1 X W (.Continue pos) (uCnt) := ⟨⟨_, ps_continue, fun f τ ρ σ H De D hs hl hw => hl.ct ρ σ H hw hs⟩⟩
def uNev : TEnds → List Ent → Prop := fun _ _ => False
theorem ts_never : TS1 X W st (uNev) := ⟨⟨_, ps_never, fun f τ ρ σ H De D hs hl hw => hw.elim⟩⟩
theorem tss_never : TSs X W sts (uNev) := ⟨⟨_, pss_never, fun f τ ρ σ H De D hs hl hw => hw.elim⟩⟩
def uRet (v : List Ent → (Nat → T → List Ent → Prop) → Prop) : TEnds → List Ent → Prop := fun De ρ => v ρ De.rt
theorem ts_ret (he : TVE X e v) : TS1 X W (.Return (some e) pos) (uRet v) := by
  obtain ⟨t1, p1, k1⟩ := he.ok
  exact ⟨⟨_, ps_ret p1, fun f τ ρ σ H De D hs hl hw => k1 f τ ρ σ H _ _ hs hw fun n t ρ' v F H' h s => hl.rt n t ρ' σ v F H' h s⟩⟩
def uRetN : TEnds → List Ent → Prop := fun De ρ => De.rt 0 .non ρ
theorem ts_retN : TS1 X W (.Return none pos) (uRetN) := by
  refine ⟨⟨_, ps_retN, fun f τ ρ σ H De D hs hl hw => ?_⟩⟩
  obtain ⟨S, rs, s⟩ := hs
  exact hl.rt 0 .non ρ σ .non [] H hw ⟨S, rs, s.pushS .non⟩
def uExp (v : List Ent → (Nat → T → List Ent → Prop) → Prop) : TEnds → List Ent → Prop := fun De ρ => v ρ fun _ _ ρ' => De.nx ρ'
theorem ts_expr (he : TVE X e v) (hs : swapsWith e none pos.line X.env = pure false := by rfl) : TS1 X W (.Expr e pos) (uExp v) := by
  obtain ⟨t1, p1, k1⟩ := he.ok
  exact ⟨⟨_, ps_expr p1 hs, fun f τ ρ σ H De D hs hl hw => k1 f τ ρ σ H _ _ hs hw fun n t ρ' v F H' h s => hl.nx ρ' σ H' h s.pop⟩⟩
def uExpP (w : List Ent → (T → Prop) → Prop) : TEnds → List Ent → Prop := fun De ρ => w ρ fun _ => De.nx ρ
theorem ts_exprP (he : TPE X e w) (hs : swapsWith e none pos.line X.env = pure false := by rfl) : TS1 X W (.Expr e pos) (uExpP w) := by
  obtain ⟨t1, p1, k1⟩ := he.ok
  exact ⟨⟨_, ps_expr p1 hs, fun f τ ρ σ H De D hs hl hw => k1 _ ρ σ H _ _ hs.rdAll hw fun t v H' h s x => hl.nx ρ σ H' h (hs.same s)⟩⟩
theorem setE_len {ρ : List Ent} {i : Nat} {e : Ent} : (setE ρ i e).length = ρ.length := by unfold setE killA; simp
def uSet (i : Nat) (v : List Ent → (Nat → T → List Ent → Prop) → Prop) : TEnds → List Ent → Prop := fun De ρ => v ρ fun n t ρ' => i < ρ'.length ∧ De.nx (setE ρ' i (.ow n t))
/-- name = value -/
theorem ts_set (i : Nat) {x : Str} (hN : X.N.Nodup) (hi : X.N[i]? = some x) (hx : Loc X.env.scope x) (he : TVE X e v) (hs : swapsWith e (some (.Name x pos')) pos.line X.env = pure false := by rfl) (hf : X.fn x = true ∨ X.env.scope.names.lookup x = some .local := by first | exact .inl rfl | exact .inr rfl | assumption) :
    TS1 X W (.Assign [.Name x pos'] e pos) (uSet i v) := by
  obtain ⟨t1, p1, k1⟩ := he.ok
  refine ⟨⟨_, ps_set hN hi hx p1 hs hf, fun f τ ρ σ H De D hs hl hw => k1 f τ ρ σ H _ _ hs hw fun n t ρ' v F H' h s => ?_⟩⟩
  exact hl.nx _ _ H' h.2 (s.setV h.1)
def uSetR (i : Nat) (w : List Ent → (T → Prop) → Prop) : TEnds → List Ent → Prop := fun De ρ => w ρ fun t => i < ρ.length ∧ De.nx (setE ρ i (.ro t))
/-- name = something to be read for a while -/
theorem ts_setR (i : Nat) {x : Str} (hN : X.N.Nodup) (hi : X.N[i]? = some x) (hx : Loc X.env.scope x) (he : TPE X e w) (hs : swapsWith e (some (.Name x pos')) pos.line X.env = pure false := by rfl) (hf : X.fn x = true ∨ X.env.scope.names.lookup x = some .local := by first | exact .inl rfl | exact .inr rfl | assumption) :
    TS1 X W (.Assign [.Name x pos'] e pos) (uSetR i w) := by
  obtain ⟨t1, p1, k1⟩ := he.ok
  refine ⟨⟨_, ps_set hN hi hx p1 hs hf, fun f τ ρ σ H De D hs hl hw => k1 _ ρ σ H _ _ hs.rdAll hw fun t v H' h s1 x1 => ?_⟩⟩
  obtain ⟨S, rs, s⟩ := hs.same s1
  exact hl.nx _ _ H' h.2 ⟨S, _, s.setE0 h.1 ⟨rfl, v, rfl, x1.mono fun _ _ => trivial⟩ (fun _ _ z => nomatch z) (fun _ _ _ z => nomatch z)⟩
def uIf (vt : List Ent → (Bool → List Ent → Prop) → Prop) (u1 : TEnds → List Ent → Prop) (u2 : TEnds → List Ent → Prop) : TEnds → List Ent → Prop := fun De ρ => vt ρ fun k ρ1 => if k = true then u1 De ρ1 else u2 De ρ1
theorem ts_if (hc : TVT X c vt) (ha : TSs X W ss u1) (hb : TSs X W bs u2) : TS1 X W (.If c ss bs pos) (uIf vt u1 u2) := by
  obtain ⟨tc, pc, kc⟩ := hc.ok
  obtain ⟨ta, pa, ka⟩ := ha.ok
  obtain ⟨tb, pb, kb⟩ := hb.ok
  refine ⟨⟨_, ps_if pc pa pb, fun f τ ρ σ H De D hs hl hw => ?_⟩⟩
  refine kc f τ ρ σ H _ _ hs hw fun k ρ1 H1 h1 s1 => ?_
  cases k with
  | true => exact ka f τ ρ1 σ H1 De D s1 hl h1
  | false => exact kb f τ ρ1 σ H1 De D s1 hl h1
/-- while, by a word over the slots and a number that falls -/
def uWhile (vt : List Ent → (Bool → List Ent → Prop) → Prop) (ub : TEnds → List Ent → Prop) : TEnds → List Ent → Prop := fun De ρ => ∃ I : Nat → List Ent → Prop, (∃ m, I m ρ) ∧ ∀ m ρ, I m ρ → vt ρ fun k ρ1 =>
  if k = true then ub { De with nx := fun ρ' => ∃ m', m' < m ∧ I m' ρ', ct := fun ρ' => ∃ m', m' < m ∧ I m' ρ', bk := De.nx } ρ1 else De.nx ρ1
theorem ts_while (hp : PassesOwn (model X.prog X.w) X.A X.env X.xe) (hc : TVT X c vt) (hb : TSs X W bs u) : TS1 X W (.While c bs [] pos) (uWhile vt u) := by
  obtain ⟨tc, pc, kc⟩ := hc.ok
  obtain ⟨tb, pb, kb⟩ := hb.ok
  refine ⟨⟨_, ps_while hp pc pb, fun f τ ρ σ H De D hs hl hw => ?_⟩⟩
  obtain ⟨I, ⟨m0, i0⟩, hI⟩ := hw
  refine ⟨fun m σ H => ∃ ρ, I m ρ ∧ Sta X.K f τ ρ σ H, ⟨m0, ρ, i0, hs⟩, fun m σ H ⟨ρ, im, s⟩ => ?_⟩
  refine kc f τ ρ σ H _ _ s (hI m ρ im) fun k ρ1 H1 h1 s1 => ?_
  cases k with
  | true =>
    rw [if_pos rfl] at h1 ⊢
    refine ⟨fun σ' H' => ∃ m', m' < m ∧ ∃ ρ, I m' ρ ∧ Sta X.K f τ ρ σ' H', fun σ' H' h => h, ?_⟩
    refine kb f τ ρ1 σ H1 { De with nx := fun ρ' => ∃ m', m' < m ∧ I m' ρ', ct := fun ρ' => ∃ m', m' < m ∧ I m' ρ', bk := De.nx } _ s1 ⟨?_, hl.rt, hl.nx, ?_, hl.xc⟩ h1
    · exact fun ρ σ H h s => let ⟨m', hm, h⟩ := h; ⟨m', hm, ρ, h, s⟩
    · exact fun ρ σ H h s => let ⟨m', hm, h⟩ := h; ⟨m', hm, ρ, h, s⟩
  | false => exact hl.nx ρ1 σ H1 h1 s1
/-! ### targets -/
/-- only these slots differ -/
def Offs (js : List Nat) (σ σ' : St) : Prop := σ'.length = σ.length ∧ ∀ m, m ∉ js → σ'[m]? = σ[m]?
theorem Offs.refl {js : List Nat} {σ : St} : Offs js σ σ := ⟨rfl, fun _ _ => rfl⟩
theorem Offs.set {i : Nat} {σ : St} {v : V} : Offs [i] σ (σ.set i (some v)) := ⟨List.length_set, fun m h => List.getElem?_set_ne (fun e => h (by simp [e]))⟩
theorem Offs.trans {js ks : List Nat} {σ σ1 σ2 : St} (a : Offs js σ σ1) (b : Offs ks σ1 σ2) : Offs (js ++ ks) σ σ2 := ⟨b.1.trans a.1, fun m h => by
  rw [List.mem_append, not_or] at h
  exact (b.2 m h.2).trans (a.2 m h.1)⟩
theorem Offs.mono {js ks : List Nat} {σ σ1 : St} (a : Offs js σ σ1) (h : ∀ j ∈ js, j ∈ ks) : Offs ks σ σ1 := ⟨a.1, fun m z => a.2 m fun y => z (h m y)⟩
structure TTg (X : Cx) (tg : Expr) (js : List Nat) (g : T → List Ent → (List Ent → Prop) → Prop) : Prop where
  ok : ∃ gg : TG, PG X tg gg ∧ ∀ (f : Fm) (τ : List Root) (ρ : List Ent) (σ : St) (H : Hp) (S : Addr → Prop) (rs : List Root) (t : T) (v : V) (Q : St → Hp → Prop) (R : List Ent → Prop), StaW X.K f τ ρ σ H S rs → Shr X.K H S t v → g t ρ R → (∀ ρ' σ' rs', R ρ' → Offs js σ σ' → StaW X.K f τ ρ' σ' H S rs' → Q σ' H) → gg v σ H Q
structure TTgs (X : Cx) (tgs : List Expr) (js : List Nat) (g : List T → List Ent → (List Ent → Prop) → Prop) : Prop where
  ok : ∃ gg : TGs, PGs X tgs gg ∧ ∀ (f : Fm) (τ : List Root) (ρ : List Ent) (σ : St) (H : Hp) (S : Addr → Prop) (rs : List Root) (ts : List T) (vs : List V) (Q : St → Hp → Prop) (R : List Ent → Prop), StaW X.K f τ ρ σ H S rs → Shrs X.K H S ts vs → g ts ρ R → (∀ ρ' σ' rs', R ρ' → Offs js σ σ' → StaW X.K f τ ρ' σ' H S rs' → Q σ' H) → gg vs σ H Q
def hName (i : Nat) : T → List Ent → (List Ent → Prop) → Prop := fun t ρ R => i < ρ.length ∧ R (setE ρ i (.ow 0 t))
theorem tg_name (i : Nat) {x : Str} (hN : X.N.Nodup) (hi : X.N[i]? = some x) (hx : Loc X.env.scope x) (hf : X.fn x = true ∨ X.env.scope.names.lookup x = some .local := by first | exact .inl rfl | exact .inr rfl | assumption) : TTg X (.Name x pos) [i] (hName i) := by
  refine ⟨⟨_, pg_name hN hi hx hf, fun f τ ρ σ H S rs t v Q R s hv hg hq => ?_⟩⟩
  exact hq _ _ _ hg.2 .set ((s.pushS hv).setV hg.1)
def hNil : List T → List Ent → (List Ent → Prop) → Prop := fun ts ρ R => match ts with
  | [] => R ρ
  | _ => False
def hCons (g : T → List Ent → (List Ent → Prop) → Prop) (gs : List T → List Ent → (List Ent → Prop) → Prop) : List T → List Ent → (List Ent → Prop) → Prop := fun ts ρ R => match ts with
  | t :: ts => g t ρ fun ρ' => gs ts ρ' R
  | _ => False
theorem tgs_nil : TTgs X [] [] hNil := by
  refine ⟨⟨_, pgs_nil, fun f τ ρ σ H S rs ts vs Q R s hv hg hq => ?_⟩⟩
  cases ts with
  | nil => cases hv; exact ⟨rfl, hq _ _ _ hg .refl s⟩
  | cons _ _ => exact hg.elim
theorem tgs_cons {js ks : List Nat} {tg : Expr} {tgs : List Expr} {g : T → List Ent → (List Ent → Prop) → Prop} {gs : List T → List Ent → (List Ent → Prop) → Prop} (h1 : TTg X tg js g) (h2 : TTgs X tgs ks gs) (hs : (assignEach (tg :: tgs) X.env).map (·.2) = assign tg X.env :: (assignEach tgs X.env).map (·.2) := by rfl) : TTgs X (tg :: tgs) (js ++ ks) (hCons g gs) := by
  obtain ⟨g1, p1, k1⟩ := h1.ok
  obtain ⟨g2, p2, k2⟩ := h2.ok
  refine ⟨⟨_, pgs_cons p1 p2 hs, fun f τ ρ σ H S rs ts vs Q R s hv hg hq => ?_⟩⟩
  cases ts with
  | nil => exact hg.elim
  | cons t ts =>
    obtain ⟨v, r, rfl, a, b⟩ := hv.uncons
    exact ⟨v, r, rfl, k1 f τ ρ σ H S rs t v _ _ s a hg fun ρ' σ' rs' h1 o1 s1 => k2 f τ ρ' σ' H S rs' ts r Q R s1 b h1 fun ρ2 σ2 rs2 h2 o2 s2 => hq ρ2 σ2 rs2 h2 (o1.trans o2) s2⟩
def hTup (gs : List T → List Ent → (List Ent → Prop) → Prop) : T → List Ent → (List Ent → Prop) → Prop := fun t ρ R => match t with
  | .tup ts => gs ts ρ R
  | _ => False
theorem tg_tup {js : List Nat} {tgs : List Expr} {k n : Nat} {gs : List T → List Ent → (List Ent → Prop) → Prop} (hc : X.calm = true) (h : TTgs X tgs js gs) (hlen : ∀ ts ρ R, gs ts ρ R → ts.length = n) (hn : (assignEach tgs X.env).length = n := by rfl) (hst : (assignEach tgs X.env).findIdx? (·.1) = none := by rfl) : TTg X (.Tuple tgs k pos) js (hTup gs) := by
  obtain ⟨g1, p1, k1⟩ := h.ok
  refine ⟨⟨_, pg_tup hc p1 hn hst, fun f τ ρ σ H S rs t v Q R s hv hg hq => ?_⟩⟩
  cases t using T.cs <;> first | exact hg.elim | skip
  obtain ⟨a, vs, rfl, q, r⟩ := shr_tup hv
  exact ⟨a, vs, rfl, q, by rw [← r.length]; exact hlen _ _ _ hg, k1 f τ ρ σ H S rs _ vs Q R s r hg hq⟩
/-- two names -/
theorem h2_len {i j : Nat} : ∀ ts ρ R, hCons (hName i) (hCons (hName j) hNil) ts ρ R → ts.length = 2 := by
  intro ts ρ R h
  match ts, h with
  | [], h => exact h.elim
  | [_], h => exact h.2.elim
  | [_, _], _ => rfl
  | _ :: _ :: _ :: _, h => exact (h.2.2.elim)
theorem h3_len {i j k : Nat} : ∀ ts ρ R, hCons (hName i) (hCons (hName j) (hCons (hName k) hNil)) ts ρ R → ts.length = 3 := by
  intro ts ρ R h
  match ts, h with
  | [], h => exact h.elim
  | [_], h => exact h.2.elim
  | [_, _], h => exact h.2.2.elim
  | [_, _, _], _ => rfl
  | _ :: _ :: _ :: _ :: _, h => exact (h.2.2.2.elim)
end
end TL
set_option Elab.async false
set_option linter.all false
set_option maxRecDepth 100000
namespace TL
open PySem PySem.Spec PyProof.Rows L2
section
variable {K : PySem.W.Frag} {f : Fm} {S S' : Addr → Prop} {H H' : Hp} {τ ms : List Root} {ρ : List Ent} {σ : St}
/-- a temporary from within forgotten -/
theorem Sta.mid {r : Root} (s : Sta K f (τ ++ ms ++ [r]) ρ σ H) : Sta K f (τ ++ [r]) ρ σ H := by
  obtain ⟨S, rs, s⟩ := s
  refine ⟨S, rs, s.e, s.o, ?_, s.al, s.io, fun q hq => s.tm q ?_⟩
  · refine s.good.pick (fun m => if m < (rs ++ τ).length then m else m + ms.length) (fun m q e => ?_) fun m l r q e1 e2 _ _ z => ?_
    · right
      rw [← List.append_assoc] at e
      have e0 : rs ++ (τ ++ ms ++ [r]) = (rs ++ τ) ++ (ms ++ [r]) := by simp
      rw [e0]
      by_cases hm : m < (rs ++ τ).length
      · rw [if_pos hm, List.getElem?_append_left hm]
        rw [List.getElem?_append_left hm] at e
        exact e
      · rw [if_neg hm]
        rw [List.getElem?_append_right (by omega)] at e ⊢
        have hl := (List.getElem?_eq_some_iff.mp e).1
        rw [List.length_singleton] at hl
        have em : m = (rs ++ τ).length := by omega
        rw [em] at e ⊢
        rw [Nat.sub_self] at e
        have e3 : (rs ++ τ).length + ms.length - (rs ++ τ).length = ms.length := by omega
        rw [e3, List.getElem?_append_right (Nat.le_refl _), Nat.sub_self]
        exact e
    · have l1 := (List.getElem?_eq_some_iff.mp e1).1
      have l2 := (List.getElem?_eq_some_iff.mp e2).1
      rw [← List.append_assoc, List.length_append, List.length_singleton] at l1 l2
      by_cases c1 : m < (rs ++ τ).length
      · by_cases c2 : l < (rs ++ τ).length
        · rw [if_pos c1, if_pos c2] at z; exact z
        · rw [if_pos c1, if_neg c2] at z; omega
      · by_cases c2 : l < (rs ++ τ).length
        · rw [if_neg c1, if_pos c2] at z; omega
        · omega
  · rcases List.mem_append.mp hq with z | z
    · exact List.mem_append_left _ (List.mem_append_left _ z)
    · exact List.mem_append_right _ z
theorem tms_sh {G : List Root} (hG : ∀ r ∈ G, SlotR K H S r.e r.o r.F) : ∀ {ks : List Nat} {ts : List T} {vs : List V} {ms : List Root}, Tms ks ts vs ms → (∀ m ∈ ks, m = 0) → (∀ r ∈ ms, r ∈ G) → ms = shRoots ts vs
  | _, _, _, _, .nil, _, _ => rfl
  | _, _, _, _, .cons (k := k) (t := t) (v := v) (F := F) h, hk, hr => by
    have e := hk k (List.mem_cons_self)
    subst e
    have z := hG _ (hr _ List.mem_cons_self)
    obtain ⟨v', e1, o⟩ := z
    have eF : F = [] := o.zero
    subst eF
    rw [tms_sh hG h (fun m hm => hk m (List.mem_cons_of_mem _ hm)) (fun r hr' => hr r (List.mem_cons_of_mem _ hr'))]
    rfl
theorem Sta.shm {ks : List Nat} {ts : List T} {vs : List V} (s : Sta K f (τ ++ ms) ρ σ H) (h : Tms ks ts vs ms) (hk : ∀ m ∈ ks, m = 0) : ms = shRoots ts vs := by
  obtain ⟨S, rs, s⟩ := s
  refine tms_sh (K := K) (S := S) (H := H) (G := rs ++ (τ ++ ms)) (fun r hr => ?_) h hk fun r hr => by simp [hr]
  obtain ⟨i, hi⟩ := List.mem_iff_getElem?.mp hr
  exact (s.good.slot i r hi).1
theorem shRoots_mem : ∀ {us : List T} {vs : List V}, us.length = vs.length → ∀ {i : Nat} {u : T} {v : V}, us[i]? = some u → vs[i]? = some v → tmp 0 u v [] ∈ shRoots us vs
  | [], _, _, i, u, v, h, _ => by simp at h
  | u0 :: us, [], h, _, _, _, _, _ => by simp at h
  | u0 :: us, v0 :: vs, h, 0, u, v, h1, h2 => by
    cases Option.some.inj h1; cases Option.some.inj h2
    exact List.mem_cons_self
  | u0 :: us, v0 :: vs, h, i + 1, u, v, h1, h2 => List.mem_cons_of_mem _ (shRoots_mem (by simpa using h) (by simpa using h1) (by simpa using h2))
theorem shRoots_shrs {G : List Root} (hG : ∀ r ∈ G, SlotR K H S r.e r.o r.F) : ∀ {us : List T} {vs : List V}, us.length = vs.length → (∀ r ∈ shRoots us vs, r ∈ G) → Shrs K H S us vs
  | [], [], _, _ => .nil
  | [], _ :: _, h, _ => by simp at h
  | _ :: _, [], h, _ => by simp at h
  | u :: us, v :: vs, h, hr => by
    obtain ⟨v', e1, o⟩ := hG _ (hr _ List.mem_cons_self)
    have e : v = v' := Option.some.inj e1
    subst e
    exact .cons o (shRoots_shrs hG (by simpa using h) fun r hr' => hr r (List.mem_cons_of_mem _ hr'))
theorem StaW.shr {us : List T} {vs : List V} {τ' : List Root} {rs : List Root} (s : StaW K f (τ ++ shRoots us vs ++ τ') ρ σ H S rs) (hl : us.length = vs.length) : Shrs K H S us vs :=
  shRoots_shrs (G := rs ++ (τ ++ shRoots us vs ++ τ')) (fun r hr => by
    obtain ⟨i, hi⟩ := List.mem_iff_getElem?.mp hr
    exact (s.good.slot i r hi).1) hl fun r hr => by simp [hr]
end
/-! ### what is walked -/
structure ItH (K : PySem.W.Frag) (J : It) (us : List T) (vs : List V) (ts : List T) : Prop where
  len : us.length = vs.length
  goes : ∀ i H S, Shrs K H S us vs → i < ts.length → J.go i H
  stops : ∀ H S, Shrs K H S us vs → J.stop ts.length H
  yields : ∀ i H S x H', i < ts.length → Shrs K H S us vs → J.yld i H x H' → ∃ t, ts[i]? = some t ∧ Same H H' ∧ Shr K H' (fresh S H) t x
structure TIt (X : Cx) (tg : Expr) (it : Expr) (wi : List Ent → (List T → List Ent → Prop) → Prop) : Prop where
  ok : ∃ ti : TI, PI X tg it ti ∧ ∀ (f : Fm) (τ : List Root) (ρ : List Ent) (σ : St) (H : Hp) (Q : It → Hp → Prop) (R : List T → List Ent → Prop), Sta X.K f τ ρ σ H → wi ρ R →
    (∀ J us vs ts ρ1 H1, R ts ρ1 → ItH X.K J us vs ts → Sta X.K f (τ ++ shRoots us vs) ρ1 σ H1 → Q J H1) → ti σ H Q
section
variable {K : PySem.W.Frag}
theorem ith_lst {a : Addr} {ts : List T} : ItH K (Itl K a) [.lst ts] [.ref a] ts := by
  have inv : ∀ {H S}, Shrs K H S [.lst ts] [.ref a] → ∃ xs, SqL K H a xs ∧ Shrs K H S ts xs := fun {H S} h => by
    obtain ⟨v, e, q⟩ := shrs1 h
    cases e
    obtain ⟨a', vs, e, q, r⟩ := shr_lst q
    cases e
    exact ⟨vs, q.sq, r⟩
  refine ⟨rfl, fun i H S h hi => ?_, fun H S h => ?_, fun i H S x H' hi h y => ?_⟩
  · obtain ⟨xs, q, r⟩ := inv h
    exact walk_list.goes i H (by rw [← r.length]; exact hi) q
  · obtain ⟨xs, q, r⟩ := inv h
    rw [r.length]
    exact walk_list.stops H q
  · obtain ⟨xs, q, r⟩ := inv h
    obtain ⟨e, y2⟩ := walk_list.yields i H x H' (by rw [← r.length]; exact hi) q y
    subst e
    have e1 : ts[i]? = some ts[i] := List.getElem?_eq_getElem hi
    obtain ⟨v, h1, h2⟩ := r.get e1
    rw [y2] at h1; cases h1
    exact ⟨_, e1, Same.refl _, h2.mono fun _ => .inl⟩
theorem ith_scr {a : Addr} {ns : List Int} : ItH K (Itl K a) [.scr ns] [.ref a] (ns.map T.int) := by
  have inv : ∀ {H S}, Shrs K H S [.scr ns] [.ref a] → SqL K H a (ns.map V.int) := fun {H S} h => by
    obtain ⟨v, e, q⟩ := shrs1 h
    cases e
    obtain ⟨a', e, q⟩ := shr_scr q
    cases e
    exact q.sq
  refine ⟨rfl, fun i H S h hi => ?_, fun H S h => ?_, fun i H S x H' hi h y => ?_⟩
  · have q := inv h
    exact walk_list.goes i H (by rw [List.length_map] at hi ⊢; exact hi) q
  · have q := inv h
    have z := walk_list.stops H q
    rw [List.length_map] at z ⊢
    exact z
  · have q := inv h
    obtain ⟨e, y2⟩ := walk_list.yields i H x H' (by rw [List.length_map] at hi ⊢; exact hi) q y
    subst e
    rw [List.getElem?_map] at y2
    cases e1 : ns[i]? with
    | none => rw [e1] at y2; cases y2
    | some n =>
      rw [e1] at y2
      cases y2
      exact ⟨.int n, by rw [List.getElem?_map, e1]; rfl, Same.refl _, .int n⟩
theorem ith_tup {a : Addr} {ts : List T} : ItH K (Itt K a) [.tup ts] [.ref a] ts := by
  have inv : ∀ {H S}, Shrs K H S [.tup ts] [.ref a] → ∃ xs, SqT K H a xs ∧ Shrs K H S ts xs := fun {H S} h => by
    obtain ⟨v, e, q⟩ := shrs1 h
    cases e
    obtain ⟨a', vs, e, q, r⟩ := shr_tup q
    cases e
    exact ⟨vs, q, r⟩
  refine ⟨rfl, fun i H S h hi => ?_, fun H S h => ?_, fun i H S x H' hi h y => ?_⟩
  · obtain ⟨xs, q, r⟩ := inv h
    exact walk_tup.goes i H (by rw [← r.length]; exact hi) q
  · obtain ⟨xs, q, r⟩ := inv h
    rw [r.length]
    exact walk_tup.stops H q
  · obtain ⟨xs, q, r⟩ := inv h
    obtain ⟨e, y2⟩ := walk_tup.yields i H x H' (by rw [← r.length]; exact hi) q y
    subst e
    have e1 : ts[i]? = some ts[i] := List.getElem?_eq_getElem hi
    obtain ⟨v, h1, h2⟩ := r.get e1
    rw [y2] at h1; cases h1
    exact ⟨_, e1, Same.refl _, h2.mono fun _ => .inl⟩
theorem ith_ctp {a : Addr} {ts : List T} : ItH K (Itt K a) [.ctp ts] [.ref a] ts := by
  have inv : ∀ {H S}, Shrs K H S [.ctp ts] [.ref a] → ∃ xs, SqT K H a xs ∧ Shrs K H S ts xs := fun {H S} h => by
    obtain ⟨v, e, q⟩ := shrs1 h
    cases e
    obtain ⟨a', vs, e, q, r⟩ := shr_ctp q
    cases e
    exact ⟨vs, q, r⟩
  refine ⟨rfl, fun i H S h hi => ?_, fun H S h => ?_, fun i H S x H' hi h y => ?_⟩
  · obtain ⟨xs, q, r⟩ := inv h
    exact walk_tup.goes i H (by rw [← r.length]; exact hi) q
  · obtain ⟨xs, q, r⟩ := inv h
    rw [r.length]
    exact walk_tup.stops H q
  · obtain ⟨xs, q, r⟩ := inv h
    obtain ⟨e, y2⟩ := walk_tup.yields i H x H' (by rw [← r.length]; exact hi) q y
    subst e
    have e1 : ts[i]? = some ts[i] := List.getElem?_eq_getElem hi
    obtain ⟨v, h1, h2⟩ := r.get e1
    rw [y2] at h1; cases h1
    exact ⟨_, e1, Same.refl _, h2.mono fun _ => .inl⟩
/-- lo, lo + 1, .. -/
def rgT (lo : Int) (n : Nat) : List T := (List.range n).map fun (i : Nat) => T.int (lo + i)
theorem rgT_len {lo : Int} {n : Nat} : (rgT lo n).length = n := by unfold rgT; simp
theorem rgT_get {lo : Int} {n i : Nat} {t : T} : (rgT lo n)[i]? = some t ↔ i < n ∧ t = .int (lo + i) := by
  unfold rgT
  rw [List.getElem?_map]
  by_cases h : i < n
  · rw [List.getElem?_range h]
    simp [h, eq_comm]
  · rw [List.getElem?_eq_none (by simpa using h)]
    simp [h]
theorem ith_rng {lo : Int} {n : Nat} : ItH K (Itr lo n) [] [] (rgT lo n) := by
  refine ⟨rfl, fun i H S h hi => ?_, fun H S h => ?_, fun i H S x H' hi h y => ?_⟩
  · rw [rgT_len] at hi; exact walk_range.goes i H hi trivial
  · rw [rgT_len]; exact walk_range.stops H trivial
  · rw [rgT_len] at hi
    obtain ⟨e, y2⟩ := walk_range.yields i H x H' hi trivial y
    subst e; subst y2
    exact ⟨_, rgT_get.mpr ⟨hi, rfl⟩, Same.refl _, .int _⟩
/-- pairs newly made -/
theorem pair_shr {H H' : Hp} {S : Addr → Prop} {x y : V} {t u : T} {p : Addr} (hp : H p = none) (e : H' = upd H p (.tup [x, y])) (a : Shr K H S t x) (b : Shr K H S u y) : Same H H' ∧ Shr K H' (fresh S H) (.tup [t, u]) (.ref p) := by
  subst e
  have hs : Same H (upd H p (.tup [x, y])) := Same.new hp (by first | exact nt_lst | exact nt_tup | exact nt_dK | exact nt_dT | exact nt_xd)
  refine ⟨hs, .tup0 upd_same ?_⟩
  exact Owns.keep (fun _ z => .inl z) (Shrs.cons a (Shrs.cons b .nil)) (.same hs)
def enT (ts : List T) : List T := ts.mapIdx fun i t => .tup [.int i, t]
theorem enT_get {ts : List T} {i : Nat} {t : T} : (enT ts)[i]? = some t ↔ ∃ u, ts[i]? = some u ∧ t = .tup [.int i, u] := by
  unfold enT
  rw [List.getElem?_mapIdx]
  cases ts[i]? <;> simp [eq_comm]
theorem ith_enum {a : Addr} {ts : List T} : ItH K (Ite K a) [.lst ts] [.ref a] (enT ts) := by
  have inv : ∀ {H S}, Shrs K H S [.lst ts] [.ref a] → ∃ xs, SqL K H a xs ∧ Shrs K H S ts xs := fun {H S} h => by
    obtain ⟨v, e, q⟩ := shrs1 h
    cases e
    obtain ⟨a', vs, e, q, r⟩ := shr_lst q
    cases e
    exact ⟨vs, q.sq, r⟩
  have hl : (enT ts).length = ts.length := by unfold enT; simp
  refine ⟨rfl, fun i H S h hi => ?_, fun H S h => ?_, fun i H S x H' hi h y => ?_⟩
  · obtain ⟨xs, q, r⟩ := inv h
    exact walk_enum.goes i H (by rw [← r.length, ← hl]; exact hi) q
  · obtain ⟨xs, q, r⟩ := inv h
    rw [hl, r.length]
    exact walk_enum.stops H q
  · obtain ⟨xs, q, r⟩ := inv h
    obtain ⟨p, x1, y1, e1, e2, e3, e4, e5⟩ := walk_enum.yields i H x H' (by rw [← r.length, ← hl]; exact hi) q y
    rw [hl] at hi
    have g1 : ts[i]? = some ts[i] := List.getElem?_eq_getElem hi
    obtain ⟨v, h1, h2⟩ := r.get g1
    have e5 : xs[i]? = some y1 := e5
    rw [e5] at h1; cases h1
    cases e4
    subst e1
    obtain ⟨a1, a2⟩ := pair_shr (t := .int (i : Nat)) e2 e3 (.int _) h2
    exact ⟨_, enT_get.mpr ⟨_, g1, rfl⟩, a1, a2⟩
def zpT (ts us : List T) : List T := List.zipWith (fun t u => .tup [t, u]) ts us
theorem zpT_get {ts us : List T} {i : Nat} {t : T} : (zpT ts us)[i]? = some t ↔ ∃ a b, ts[i]? = some a ∧ us[i]? = some b ∧ t = .tup [a, b] := by
  unfold zpT
  rw [List.getElem?_zipWith]
  cases ts[i]? <;> cases us[i]? <;> simp [eq_comm]
theorem ith_zip {a b : Addr} {ts us : List T} : ItH K (Itz K a b) [.lst ts, .lst us] [.ref a, .ref b] (zpT ts us) := by
  have inv : ∀ {H S}, Shrs K H S [.lst ts, .lst us] [.ref a, .ref b] → ∃ xs ys, SqL K H a xs ∧ Shrs K H S ts xs ∧ SqL K H b ys ∧ Shrs K H S us ys := fun {H S} h => by
    obtain ⟨v, v2, e, q, q2⟩ := shrs2 h
    cases e
    obtain ⟨a', vs, e, q, r⟩ := shr_lst q
    cases e
    obtain ⟨a', ws, e, q2, r2⟩ := shr_lst q2
    cases e
    exact ⟨vs, ws, q.sq, r, q2.sq, r2⟩
  have hl : (zpT ts us).length = min ts.length us.length := by unfold zpT; simp
  refine ⟨rfl, fun i H S h hi => ?_, fun H S h => ?_, fun i H S x H' hi h y => ?_⟩
  · obtain ⟨xs, ys, q, r, q2, r2⟩ := inv h
    exact (walk_zip (xs := xs) (ys := ys) (by rw [← r.length, ← r2.length, hl])).goes i H hi ⟨q, q2⟩
  · obtain ⟨xs, ys, q, r, q2, r2⟩ := inv h
    exact (walk_zip (xs := xs) (ys := ys) (by rw [← r.length, ← r2.length, hl])).stops H ⟨q, q2⟩
  · obtain ⟨xs, ys, q, r, q2, r2⟩ := inv h
    obtain ⟨p, x1, y1, e1, e2, e3, e4, e5⟩ := (walk_zip (xs := xs) (ys := ys) (by rw [← r.length, ← r2.length, hl])).yields i H x H' hi ⟨q, q2⟩ y
    rw [hl] at hi
    have g1 : ts[i]? = some (ts[i]'(by omega)) := List.getElem?_eq_getElem (by omega)
    have g2 : us[i]? = some (us[i]'(by omega)) := List.getElem?_eq_getElem (by omega)
    obtain ⟨v, h1, h2⟩ := r.get g1
    have e4 : xs[i]? = some x1 := e4
    have e5 : ys[i]? = some y1 := e5
    rw [e4] at h1; cases h1
    obtain ⟨v, h1, h3⟩ := r2.get g2
    rw [e5] at h1; cases h1
    subst e1
    obtain ⟨a1, a2⟩ := pair_shr e2 e3 h2 h3
    exact ⟨_, zpT_get.mpr ⟨_, _, g1, g2, rfl⟩, a1, a2⟩
end
theorem Sta.fit0 {K : PySem.W.Frag} {f : Fm} {τ : List Root} {ρ : List Ent} {σ : St} {H : Hp} {n : Nat} {t : T} {v : V} {F : List Addr} (s : Sta K f (τ ++ [tmp n t v F]) ρ σ H) : Sta K f (τ ++ shRoots [t] [v]) ρ σ H := by
  obtain ⟨S, rs, s⟩ := s
  obtain ⟨F', S', _, s'⟩ := s.fitV (k := 0) (.inl (Nat.zero_le _))
  have s2 : Sta K f (τ ++ [tmp 0 t v F']) ρ σ H := ⟨S', rs, s'⟩
  have e := s2.shm (ks := [0]) (ts := [t]) (vs := [v]) (.cons .nil) (by simp)
  rw [← e]
  exact s2
theorem Sta.shr1 {K : PySem.W.Frag} {f : Fm} {τ : List Root} {ρ : List Ent} {σ : St} {H : Hp} {us : List T} {vs : List V} (s : Sta K f (τ ++ shRoots us vs) ρ σ H) (hl : us.length = vs.length) : ∃ S, Shrs K H S us vs := by
  obtain ⟨S, rs, s⟩ := s
  refine ⟨S, ?_⟩
  have s : StaW K f (τ ++ shRoots us vs ++ []) ρ σ H S rs := by rw [List.append_nil]; exact s
  exact s.shr hl
section
variable {X : Cx} {W : WX} {tg it e a b c : Expr} {es : List Expr} {pos p p2 tpos : Pos} {elts : List Expr} {kk : Nat} {ks : List Nat} {v va vb : List Ent → (Nat → T → List Ent → Prop) → Prop} {vA : List Ent → (List T → List Ent → Prop) → Prop} {wA : List Ent → (List T → Prop) → Prop}
def iLst (v : List Ent → (Nat → T → List Ent → Prop) → Prop) : List Ent → (List T → List Ent → Prop) → Prop := fun ρ R => v ρ fun _ t ρ1 => match t with
  | .nd .lst ts => R ts ρ1
  | .scr ns => R (ns.map T.int) ρ1
  | _ => False
theorem ti_lst (h : TVE X e v) : TIt X tg e (iLst v) := by
  obtain ⟨te, pe, ke⟩ := h.ok
  refine ⟨⟨_, pi_list pe, fun f τ ρ σ H Q R hs hw hq => ?_⟩⟩
  refine ke f τ ρ σ H _ _ hs hw fun n t ρ' v F H1 h1 s1 => ?_
  have s2 := s1.fit0
  obtain ⟨S, sh⟩ := s2.shr1 rfl
  obtain ⟨v', e, q⟩ := shrs1 sh
  cases e
  cases t using T.cs <;> first | exact h1.elim | skip
  · obtain ⟨a, vs, rfl, q, r⟩ := shr_lst q
    exact ⟨a, rfl, ⟨vs, q.sq⟩, hq _ _ _ _ _ _ h1 ith_lst s2⟩
  · obtain ⟨a, rfl, q2⟩ := shr_scr q
    exact ⟨a, rfl, ⟨_, q2.sq⟩, hq _ _ _ _ _ _ h1 ith_scr s2⟩
def iTup (v : List Ent → (Nat → T → List Ent → Prop) → Prop) : List Ent → (List T → List Ent → Prop) → Prop := fun ρ R => v ρ fun _ t ρ1 => match t with
  | .tup ts => R ts ρ1
  | .ctp ts => R ts ρ1
  | _ => False
theorem ti_tup (h : TVE X e v) : TIt X tg e (iTup v) := by
  obtain ⟨te, pe, ke⟩ := h.ok
  refine ⟨⟨_, pi_tup pe, fun f τ ρ σ H Q R hs hw hq => ?_⟩⟩
  refine ke f τ ρ σ H _ _ hs hw fun n t ρ' v F H1 h1 s1 => ?_
  have s2 := s1.fit0
  obtain ⟨S, sh⟩ := s2.shr1 rfl
  obtain ⟨v', e, q⟩ := shrs1 sh
  cases e
  cases t using T.cs <;> first | exact h1.elim | skip
  · obtain ⟨a, vs, rfl, q, r⟩ := shr_tup q
    exact ⟨a, rfl, ⟨vs, q⟩, hq _ _ _ _ _ _ h1 ith_tup s2⟩
  · obtain ⟨a, vs, rfl, q, r⟩ := shr_ctp q
    exact ⟨a, rfl, ⟨vs, q⟩, hq _ _ _ _ _ _ h1 ith_ctp s2⟩
variable {wa wb wc : List Ent → (T → Prop) → Prop}
def iRng1 (wa : List Ent → (T → Prop) → Prop) : List Ent → (List T → List Ent → Prop) → Prop := fun ρ R => wa ρ fun t => match t with
  | .int j => -(2 ^ 62) ≤ j ∧ j < 2 ^ 62 ∧ R (rgT 0 j.toNat) ρ
  | _ => False
def iRng2 (wa wb : List Ent → (T → Prop) → Prop) : List Ent → (List T → List Ent → Prop) → Prop := fun ρ R => wa ρ fun t => wb ρ fun u => match t, u with
  | .int i, .int j => (-(2 ^ 62) ≤ i ∧ i < 2 ^ 62 ∧ -(2 ^ 62) ≤ j ∧ j < 2 ^ 62) ∧ R (rgT i (j - i).toNat) ρ
  | _, _ => False
theorem ti_rng1 (hg : Gl X "range") (hm : X.mg "range" = none) (ha : TPE X a wa) (hs : starEach [a] X.env = [(false, eval a X.env)] := by rfl) : TIt X tg (.Call (.Name "range" p) [a] [] pos) (iRng1 wa) := by
  obtain ⟨ta, pa, ka⟩ := (tpa_cons ha tpa_nil hs).ok
  refine ⟨⟨_, pi_range1 hg hm pa hs, fun f τ ρ σ H Q R h1 hw hq => ?_⟩⟩
  refine ka _ ρ σ H _ (fun ts => ∃ j : Int, ts = [.int j] ∧ -(2 ^ 62) ≤ j ∧ j < 2 ^ 62 ∧ R (rgT 0 j.toNat) ρ) h1.rdAll ?_ fun ts vs H1 h2 s1 x1 => ?_
  · show wa ρ fun t => (∃ j : Int, [t] = [T.int j] ∧ -(2 ^ 62) ≤ j ∧ j < 2 ^ 62 ∧ R (rgT 0 j.toNat) ρ)
    have e : (fun t : T => (∃ j : Int, [t] = [T.int j] ∧ -(2 ^ 62) ≤ j ∧ j < 2 ^ 62 ∧ R (rgT 0 j.toNat) ρ)) = fun t => match t with | .int j => -(2 ^ 62) ≤ j ∧ j < 2 ^ 62 ∧ R (rgT 0 j.toNat) ρ | _ => False := by
      funext t
      cases t using T.cs <;> simp
    rw [e]
    exact hw
  · obtain ⟨j, rfl, h4, h5, h6⟩ := h2
    obtain ⟨v, rfl, x⟩ := shrs1 x1
    exact ⟨j, by rw [shr_int x], h4, h5, hq _ [] [] _ _ _ h6 ith_rng (by rw [show shRoots [] [] = [] from rfl, List.append_nil]; exact h1.same s1)⟩
theorem ti_rng2 (hg : Gl X "range") (hm : X.mg "range" = none) (ha : TPE X a wa) (hb : TPE X b wb) (hs : starEach [a, b] X.env = [(false, eval a X.env), (false, eval b X.env)] := by rfl) (hs2 : starEach [b] X.env = [(false, eval b X.env)] := by rfl) : TIt X tg (.Call (.Name "range" p) [a, b] [] pos) (iRng2 wa wb) := by
  obtain ⟨ta, pa, ka⟩ := (tpa_cons ha (tpa_cons hb tpa_nil hs2) (by rw [hs, hs2])).ok
  refine ⟨⟨_, pi_range2 hg hm pa hs hs2, fun f τ ρ σ H Q R h1 hw hq => ?_⟩⟩
  refine ka _ ρ σ H _ (fun ts => ∃ i j : Int, ts = [.int i, .int j] ∧ (-(2 ^ 62) ≤ i ∧ i < 2 ^ 62 ∧ -(2 ^ 62) ≤ j ∧ j < 2 ^ 62) ∧ R (rgT i (j - i).toNat) ρ) h1.rdAll ?_ fun ts vs H1 h2 s1 x1 => ?_
  · show wa ρ fun t => wb ρ fun u => (∃ i j : Int, [t, u] = [T.int i, T.int j] ∧ (-(2 ^ 62) ≤ i ∧ i < 2 ^ 62 ∧ -(2 ^ 62) ≤ j ∧ j < 2 ^ 62) ∧ R (rgT i (j - i).toNat) ρ)
    have e : (fun t : T => wb ρ fun u => (∃ i j : Int, [t, u] = [T.int i, T.int j] ∧ (-(2 ^ 62) ≤ i ∧ i < 2 ^ 62 ∧ -(2 ^ 62) ≤ j ∧ j < 2 ^ 62) ∧ R (rgT i (j - i).toNat) ρ)) = fun t => wb ρ fun u => match t, u with | .int i, .int j => (-(2 ^ 62) ≤ i ∧ i < 2 ^ 62 ∧ -(2 ^ 62) ≤ j ∧ j < 2 ^ 62) ∧ R (rgT i (j - i).toNat) ρ | _, _ => False := by
      funext t
      congr 1
      funext u
      cases t using T.cs <;> cases u using T.cs <;> simp
      exact ⟨fun ⟨i, j, ⟨e1, e2⟩, z⟩ => by subst e1; subst e2; exact z, fun z => ⟨_, _, ⟨rfl, rfl⟩, z⟩⟩
    rw [e]
    exact hw
  · obtain ⟨i, j, rfl, h4, h6⟩ := h2
    obtain ⟨v, v2, rfl, x, y⟩ := shrs2 x1
    exact ⟨i, j, by rw [shr_int x, shr_int y], h4, hq _ [] [] _ _ _ h6 ith_rng (by rw [show shRoots [] [] = [] from rfl, List.append_nil]; exact h1.same s1)⟩
def iEn (vA : List Ent → (List T → List Ent → Prop) → Prop) : List Ent → (List T → List Ent → Prop) → Prop := fun ρ R => vA ρ fun ts ρ1 => match ts with
  | [.nd .lst us] => R (enT us) ρ1
  | _ => False
theorem ti_enum (hg : Gl X "enumerate") (hm : X.mg "enumerate" = none) (ha : TVA X [0] [e] vA) (hs : starEach [e] X.env = [(false, eval e X.env)] := by rfl) : TIt X (.Tuple elts kk tpos) (.Call (.Name "enumerate" p) [e] [] pos) (iEn vA) := by
  obtain ⟨ta, pa, ka⟩ := ha.ok
  refine ⟨⟨_, pi_enum hg hm pa hs, fun f τ ρ σ H Q R h1 hw hq => ?_⟩⟩
  refine ka f τ ρ σ H _ _ h1 hw fun ts ρ1 vs ms H1 h2 hm s1 => ?_
  have em := s1.shm hm (by simp)
  subst em
  have hl : ts.length = vs.length := by rw [hm.lens.1, hm.lens.2]
  obtain ⟨S, sh⟩ := s1.shr1 hl
  split at h2
  · obtain ⟨v, rfl, x⟩ := shrs1 sh
    obtain ⟨a, vs, rfl, q, r⟩ := shr_lst x
    exact ⟨a, vs, rfl, q.sq, hq _ _ _ _ _ _ h2 ith_enum s1⟩
  · exact h2.elim
def iZp (vA : List Ent → (List T → List Ent → Prop) → Prop) : List Ent → (List T → List Ent → Prop) → Prop := fun ρ R => vA ρ fun ts ρ1 => match ts with
  | [.nd .lst us, .nd .lst ws] => R (zpT us ws) ρ1
  | _ => False
theorem ti_zip (hg : Gl X "zip") (hm : X.mg "zip" = none) (ha : TVA X [0, 0] [a, b] vA) (hs : starEach [a, b] X.env = (false, eval a X.env) :: starEach [b] X.env := by rfl) (hpl : (backTo pos (starEach [b] X.env)).any (·.1) = false := by rfl) : TIt X (.Tuple elts kk tpos) (.Call (.Name "zip" p) [a, b] [] pos) (iZp vA) := by
  obtain ⟨ta, pa, ka⟩ := ha.ok
  refine ⟨⟨_, pi_zip hg hm pa hs hpl, fun f τ ρ σ H Q R h1 hw hq => ?_⟩⟩
  refine ka f τ ρ σ H _ _ h1 hw fun ts ρ1 vs ms H1 h2 hm s1 => ?_
  have em := s1.shm hm (by simp)
  subst em
  have hl : ts.length = vs.length := by rw [hm.lens.1, hm.lens.2]
  obtain ⟨S, sh⟩ := s1.shr1 hl
  split at h2
  · obtain ⟨v, v2, rfl, x, x2⟩ := shrs2 sh
    obtain ⟨a, vs, rfl, q, r⟩ := shr_lst x
    obtain ⟨b, ws, rfl, q2, r2⟩ := shr_lst x2
    exact ⟨a, b, vs, ws, rfl, q.sq, q2.sq, hq _ _ _ _ _ _ h2 ith_zip s1⟩
  · exact h2.elim
/-! ### for -/
variable {wi : List Ent → (List T → List Ent → Prop) → Prop} {hT : T → List Ent → (List Ent → Prop) → Prop} {u : TEnds → List Ent → Prop} {body : List Stmt}
def forOk (hT : T → List Ent → (List Ent → Prop) → Prop) (u : TEnds → List Ent → Prop) (De : TEnds) (ts : List T) (ρ1 : List Ent) : Prop := ∃ I : Nat → List Ent → Prop, I 0 ρ1 ∧
  (∀ i t ρ, ts[i]? = some t → I i ρ → hT t ρ (u { De with nx := I (i + 1), ct := I (i + 1), bk := De.nx })) ∧ ∀ ρ, I ts.length ρ → De.nx ρ
def uFor (wi : List Ent → (List T → List Ent → Prop) → Prop) (hT : T → List Ent → (List Ent → Prop) → Prop) (u : TEnds → List Ent → Prop) : TEnds → List Ent → Prop := fun De ρ => wi ρ (forOk hT u De)
theorem ts_for {js : List Nat} (hp : PassesOwn (model X.prog X.w) X.A X.env X.xe) (hc : X.calm = true) (hi : TIt X tg it wi) (hg : TTg X tg js hT) (hb : TSs X W body u) (hs : ∀ x, foldedSetIterable it X.env x = pure x := by intro _; rfl) : TS1 X W (.For tg it body [] pos) (uFor wi hT u) := by
  obtain ⟨ti, pi, ki⟩ := hi.ok
  obtain ⟨tg, pg, kg⟩ := hg.ok
  obtain ⟨tb, pb, kb⟩ := hb.ok
  refine ⟨⟨_, ps_for hp hc pi pg pb hs, fun f τ ρ σ H De D h1 hl hw => ?_⟩⟩
  refine ki f τ ρ σ H _ _ h1 hw fun J us vs ts ρ1 H1 h2 ith s1 => ?_
  obtain ⟨I, i0, hI, hend⟩ := h2
  have wk : Walk J ts.length (fun H => ∃ S, Shrs X.K H S us vs) (fun i H x H' => J.yld i H x H' ∧ ∃ S, Shrs X.K H S us vs) :=
    ⟨fun i H hi h => let ⟨S, h⟩ := h; ith.goes i H S h hi, fun H h => let ⟨S, h⟩ := h; ith.stops H S h, fun i H x H' _ h y => ⟨y, h⟩⟩
  refine for_it wk (fun i σ H => ∃ ρ, I i ρ ∧ Sta X.K f (τ ++ shRoots us vs) ρ σ H) ⟨ρ1, i0, s1⟩ (fun i σ H _ h => ?_) (fun i x σ H H' hi h y => ?_) fun σ H h => ?_
  · obtain ⟨ρ, _, s⟩ := h
    exact s.shr1 ith.len
  · obtain ⟨ρ, im, S, rs, s⟩ := h
    have s0 : StaW X.K f (τ ++ shRoots us vs ++ []) ρ σ H S rs := by rw [List.append_nil]; exact s
    obtain ⟨t, e1, sm, x1⟩ := ith.yields i H S x H' hi (s0.shr ith.len) y.1
    refine kg f (τ ++ shRoots us vs) ρ σ H' _ rs t x _ _ (s.grow sm) (shr_grown x1) (hI i t ρ e1 im) fun ρ' σ' rs' h3 _ s3 => ?_
    refine kb f (τ ++ shRoots us vs) ρ' σ' H' { De with nx := I (i + 1), ct := I (i + 1), bk := De.nx } _ ⟨_, _, s3⟩ ⟨?_, ?_, ?_, ?_, fun x ρ σ cls d H h s e => hl.xc x ρ σ cls d H h s.pop e⟩ h3
    · exact fun ρ σ H h s => ⟨ρ, h, s⟩
    · exact fun n t ρ σ v F H h s => hl.rt n t ρ σ v F H h s.mid
    · exact fun ρ σ H h s => hl.nx ρ σ H h s.pop
    · exact fun ρ σ H h s => ⟨ρ, h, s⟩
  · obtain ⟨ρ, im, s⟩ := h
    exact hl.nx ρ σ H (hend ρ im) s.pop
end
end TL
set_option Elab.async false
set_option linter.all false
set_option maxRecDepth 100000
namespace TL
open PySem PySem.Spec PyProof.Rows L2
section
variable {K : PySem.W.Frag} {f : Fm} {S S' : Addr → Prop} {H H' : Hp} {τ τ' ms : List Root} {ρ : List Ent} {σ σ' : St}
theorem Sta.perm (s : Sta K f τ ρ σ H) (g : Nat → Nat) (hg : ∀ (m : Nat) r, τ'[m]? = some r → τ[g m]? = some r) (inj : ∀ m l, m < τ'.length → l < τ'.length → g m = g l → m = l) : Sta K f τ' ρ σ H := by
  obtain ⟨S, rs, s⟩ := s
  refine ⟨S, rs, s.e, s.o, ?_, s.al, s.io, fun q hq => ?_⟩
  · refine s.good.pick (fun m => if m < rs.length then m else rs.length + g (m - rs.length)) (fun m q e => ?_) fun m l r q e1 e2 _ _ z => ?_
    · right
      by_cases hm : m < rs.length
      · rw [if_pos hm, List.getElem?_append_left hm]
        rw [List.getElem?_append_left hm] at e
        exact e
      · rw [if_neg hm, getElem?_skip]
        rw [List.getElem?_append_right (by omega)] at e
        exact hg _ _ e
    · have l1 := (List.getElem?_eq_some_iff.mp e1).1
      have l2 := (List.getElem?_eq_some_iff.mp e2).1
      rw [List.length_append] at l1 l2
      by_cases c1 : m < rs.length
      · by_cases c2 : l < rs.length
        · rw [if_pos c1, if_pos c2] at z; exact z
        · rw [if_pos c1, if_neg c2] at z; omega
      · by_cases c2 : l < rs.length
        · rw [if_neg c1, if_pos c2] at z; omega
        · rw [if_neg c1, if_neg c2] at z
          have := inj (m - rs.length) (l - rs.length) (by omega) (by omega) (by omega)
          omega
  · obtain ⟨i, hi⟩ := List.mem_iff_getElem?.mp hq
    exact s.tm q (List.mem_of_getElem? (hg i q hi))
theorem Sta.rot {r : Root} (s : Sta K f (r :: τ) ρ σ H) : Sta K f (τ ++ [r]) ρ σ H := by
  refine s.perm (fun m => if m < τ.length then m + 1 else 0) (fun m q e => ?_) fun m l h1 h2 z => ?_
  · by_cases hm : m < τ.length
    · rw [List.getElem?_append_left hm] at e
      rw [if_pos hm, List.getElem?_cons_succ]; exact e
    · rw [List.getElem?_append_right (by omega)] at e
      have hl := (List.getElem?_eq_some_iff.mp e).1
      rw [List.length_singleton] at hl
      have e0 : m - τ.length = 0 := by omega
      rw [e0] at e
      rw [if_neg hm]; exact e
  · rw [List.length_append, List.length_singleton] at h1 h2
    by_cases c1 : m < τ.length <;> by_cases c2 : l < τ.length
    · rw [if_pos c1, if_pos c2] at z; omega
    · rw [if_pos c1, if_neg c2] at z; omega
    · rw [if_neg c1, if_pos c2] at z; omega
    · omega
theorem Sta.torF {r : Root} (s : Sta K f (τ ++ [r]) ρ σ H) : Sta K f (r :: τ) ρ σ H := by
  refine s.perm (fun m => if m = 0 then τ.length else m - 1) (fun m q e => ?_) fun m l h1 h2 z => ?_
  · cases m with
    | zero => rw [if_pos rfl, getElem?_last]; exact e
    | succ m =>
      rw [List.getElem?_cons_succ] at e
      rw [if_neg (Nat.succ_ne_zero m)]
      exact getElem?_app e
  · rw [List.length_cons] at h1 h2
    by_cases c1 : m = 0 <;> by_cases c2 : l = 0
    · omega
    · rw [if_pos c1, if_neg c2] at z; omega
    · rw [if_neg c1, if_pos c2] at z; omega
    · rw [if_neg c1, if_neg c2] at z; omega
/-! ### slots set aside -/
theorem foldl_no_get (vs : List Nat) : ∀ (ρ : List Ent) (m : Nat), (vs.foldl (fun ρ j => ρ.set j .no) ρ)[m]? = if m ∈ vs then ρ[m]?.map (fun _ => Ent.no) else ρ[m]? := by
  induction vs with
  | nil => intro ρ m; simp
  | cons v vs ih =>
    intro ρ m
    rw [List.foldl_cons, ih]
    by_cases h : m ∈ vs
    · rw [if_pos h, if_pos (List.mem_cons_of_mem _ h), List.getElem?_set]
      split
      · subst_vars
        split
        · rename_i z; rw [List.getElem?_eq_getElem z]; rfl
        · rename_i z; rw [List.getElem?_eq_none (by omega)]
      · rfl
    · rw [if_neg h]
      by_cases h2 : m = v
      · subst h2
        rw [if_pos List.mem_cons_self, List.getElem?_set]
        rw [if_pos rfl]
        split
        · rename_i z; rw [List.getElem?_eq_getElem z]; rfl
        · rename_i z; rw [List.getElem?_eq_none (by omega)]; rfl
      · rw [if_neg (by simp [h, h2]), List.getElem?_set_ne (fun z => h2 z.symm)]
theorem notIn_get (vs : List Nat) (ρ : List Ent) (m : Nat) : (notIn vs ρ)[m]? = if m ∈ vs then ρ[m]?.map (fun _ => Ent.no) else ρ[m]?.map noRA := by
  unfold notIn
  rw [foldl_no_get, List.getElem?_map]
  split
  · cases ρ[m]? <;> rfl
  · rfl
theorem noRA_idem (e : Ent) : noRA (noRA e) = noRA e := by cases e <;> rfl
theorem notIn_idem (vs : List Nat) (ρ : List Ent) : notIn vs (notIn vs ρ) = notIn vs ρ := by
  apply List.ext_getElem?
  intro m
  rw [notIn_get, notIn_get]
  split
  · cases ρ[m]? <;> rfl
  · cases ρ[m]? with
    | none => rfl
    | some e => show some (noRA (noRA e)) = some (noRA e); rw [noRA_idem]
theorem notIn_nr (vs : List Nat) (ρ : List Ent) : ∀ e ∈ notIn vs ρ, (∀ t, e ≠ .ro t) ∧ ∀ j i t, e ≠ .al j i t := fun e he => by
  obtain ⟨m, hm⟩ := List.mem_iff_getElem?.mp he
  rw [notIn_get] at hm
  split at hm
  · cases q : ρ[m]? with
    | none => rw [q] at hm; cases hm
    | some x => rw [q] at hm; cases Option.some.inj hm; exact ⟨fun t z => (nomatch z), fun j i t z => (nomatch z)⟩
  · cases q : ρ[m]? with
    | none => rw [q] at hm; cases hm
    | some x =>
      rw [q] at hm
      have hm := Option.some.inj hm
      subst hm
      cases x <;> exact ⟨fun t z => (nomatch z), fun j i t z => (nomatch z)⟩
theorem Sta.notIn (vs : List Nat) (s : Sta K f τ ρ σ H) (h : Offs vs σ σ') : Sta K f τ (TL.notIn vs ρ) σ' H := by
  obtain ⟨S, rs0, s0⟩ := s
  obtain ⟨rs, s⟩ : ∃ rs, StaW K f τ (ρ.map noRA) σ H S rs := ⟨_, s0.wk noRA noRA_cases noRA_own⟩
  have hlen : rs.length = σ'.length := by rw [h.1]; exact s.lenσ
  let g : Nat → Root → Root := fun m r => if m ∈ vs then ⟨.no, (σ'[m]?).join, []⟩ else r
  have gg : ∀ m, (rs.mapIdx g)[m]? = rs[m]?.map (g m) := fun m => List.getElem?_mapIdx
  have nal : ∀ (k j i : Nat) t, (TL.notIn vs ρ)[k]? ≠ some (.al j i t) := fun k j i t z => (notIn_nr vs ρ _ (List.mem_of_getElem? z)).2 j i t rfl
  refine ⟨S, rs.mapIdx g, ?_, ?_, ?_, fun k j i t z => absurd z (nal k j i t), fun i n t z => ?_, s.tm⟩
  · apply List.ext_getElem?
    intro m
    rw [List.getElem?_map, gg, notIn_get]
    have e1 : rs[m]?.map (·.e) = ρ[m]?.map noRA := by rw [← List.getElem?_map, s.e, List.getElem?_map]
    cases q : rs[m]? with
    | none =>
      rw [q] at e1
      cases q2 : ρ[m]? with
      | none => split <;> rfl
      | some x => rw [q2] at e1; cases e1
    | some r =>
      rw [q] at e1
      cases q2 : ρ[m]? with
      | none => rw [q2] at e1; cases e1
      | some x =>
        rw [q2] at e1
        show some (g m r).e = _
        by_cases hm : m ∈ vs
        · rw [if_pos hm]
          show some (if m ∈ vs then (⟨.no, (σ'[m]?).join, []⟩ : Root) else r).e = some Ent.no
          rw [if_pos hm]
        · rw [if_neg hm]
          show some (if m ∈ vs then (⟨.no, (σ'[m]?).join, []⟩ : Root) else r).e = some (noRA x)
          rw [if_neg hm]
          exact e1
  · apply List.ext_getElem?
    intro m
    rw [List.getElem?_map, gg]
    have e1 : rs[m]?.map (·.o) = σ[m]? := by rw [← List.getElem?_map, s.o]
    cases q : rs[m]? with
    | none =>
      have : σ'.length ≤ m := by rw [← hlen]; exact List.getElem?_eq_none_iff.mp q
      rw [List.getElem?_eq_none this]; rfl
    | some r =>
      rw [q] at e1
      have hml : m < σ'.length := by rw [← hlen]; exact (List.getElem?_eq_some_iff.mp q).1
      show some (if m ∈ vs then (⟨.no, (σ'[m]?).join, []⟩ : Root) else r).o = _
      by_cases hm : m ∈ vs
      · rw [if_pos hm, List.getElem?_eq_getElem hml]; rfl
      · rw [if_neg hm, h.2 m hm]
        exact e1
  · refine s.good.pick (fun m => m) (fun m q e => ?_) fun m l r q e1 e2 _ _ z => z
    by_cases hm : m < rs.length
    · rw [List.getElem?_append_left (by simpa using hm), gg, List.getElem?_eq_getElem hm] at e
      have e := Option.some.inj e
      subst e
      by_cases hv : m ∈ vs
      · left
        show (if m ∈ vs then (⟨.no, (σ'[m]?).join, []⟩ : Root) else rs[m]).e = _ ∧ (if m ∈ vs then (⟨.no, (σ'[m]?).join, []⟩ : Root) else rs[m]).F = _
        rw [if_pos hv]; exact ⟨rfl, rfl⟩
      · right
        rw [List.getElem?_append_left hm, List.getElem?_eq_getElem hm]
        show some rs[m] = some (if m ∈ vs then (⟨.no, (σ'[m]?).join, []⟩ : Root) else rs[m])
        rw [if_neg hv]
    · right
      rw [List.getElem?_append_right (by simp; omega)] at e
      rw [List.getElem?_append_right (by omega)]
      simpa using e
  · rw [notIn_get] at z
    split at z
    · cases q : ρ[i]? with
      | none => rw [q] at z; cases z
      | some x => rw [q] at z; cases z
    · rename_i hm
      rw [h.2 i hm]
      exact s.io i n t (by rw [List.getElem?_map]; exact z)
/-- the first temporary as a slot behind the others, and back -/
theorem Sta.toSlot {n : Nat} {t : T} {v : V} {F : List Addr} (s : Sta K f (tmp n t v F :: τ) ρ σ H) : Sta K f τ (ρ ++ [.ow n t]) (σ ++ [some v]) H := by
  obtain ⟨S, rs, s⟩ := s
  refine ⟨S, rs ++ [tmp n t v F], by rw [List.map_append, s.e]; rfl, by rw [List.map_append, s.o]; rfl, ?_, fun k j i u z => ?_, fun i m u z => ?_, fun r hr => s.tm r (List.mem_cons_of_mem _ hr)⟩
  · have e : rs ++ [tmp n t v F] ++ τ = rs ++ tmp n t v F :: τ := by simp
    rw [e]; exact s.good
  · by_cases hk : k < ρ.length
    · rw [List.getElem?_append_left hk] at z
      obtain ⟨r, m, U, v0, w, Fi, a1, a2, a3, a4, a5, a6, a7⟩ := (s.al k j i u z).ex
      exact ⟨⟨r, m, U, v0, w, Fi, getElem?_app a1, a2, a3, getElem?_app a4, a5, a6, a7⟩⟩
    · rw [List.getElem?_append_right (by omega)] at z
      have := List.mem_of_getElem? z
      simp at this
  · by_cases hk : i < ρ.length
    · rw [List.getElem?_append_left hk] at z
      have hs : i < σ.length := by rw [← s.lenσ, s.len]; exact hk
      rw [List.getElem?_append_left hs]
      exact s.io i m u z
    · rw [List.getElem?_append_right (by omega)] at z
      have := List.mem_of_getElem? z
      simp at this
theorem Sta.toTmp {n : Nat} {t : T} {v : V} (s : Sta K f τ (ρ ++ [.ow n t]) (σ ++ [some v]) H) (nal : ∀ e ∈ ρ, ∀ j i t, e ≠ .al j i t) : ∃ F, Sta K f (tmp n t v F :: τ) ρ σ H := by
  obtain ⟨S, rs, s⟩ := s
  have hl : rs.length = ρ.length + 1 := by rw [s.len]; simp
  have hl2 : rs.length = σ.length + 1 := by rw [s.lenσ]; simp
  obtain ⟨rs0, r, rfl⟩ : ∃ rs0 r, rs = rs0 ++ [r] := by
    rcases List.eq_nil_or_concat rs with h | ⟨a, b, h⟩
    · rw [h] at hl; simp at hl
    · exact ⟨a, b, by rw [h, List.concat_eq_append]⟩
  have e1 := s.e
  have e2 := s.o
  rw [List.map_append] at e1 e2
  have l1 : rs0.length = ρ.length := by simpa using hl
  have l2 : rs0.length = σ.length := by simpa using hl2
  obtain ⟨a1, a2⟩ := List.append_inj e1 (by simpa using l1)
  obtain ⟨b1, b2⟩ := List.append_inj e2 (by simpa using l2)
  have er : r = tmp n t v r.F := by
    cases r with
    | mk e o F =>
      have a3 : e = .ow n t := by simpa using a2
      have b3 : o = some v := by simpa using b2
      rw [a3, b3]
  refine ⟨r.F, S, rs0, a1, b1, ?_, fun k j i u z => ?_, fun i m u z => ?_, fun q hq => ?_⟩
  · have e : rs0 ++ tmp n t v r.F :: τ = rs0 ++ [r] ++ τ := by rw [← er]; simp
    rw [e]; exact s.good
  · exact absurd rfl (nal _ (List.mem_of_getElem? z) j i u)
  · have hk := (List.getElem?_eq_some_iff.mp z).1
    have e := s.io i m u (getElem?_app z)
    rw [List.getElem?_append_left (by omega)] at e
    exact e
  · rcases List.mem_cons.mp hq with h | h
    · exact ⟨n, t, by rw [h]⟩
    · exact s.tm q h
/-- a list held grows by the value of the last temporary -/
theorem Sta.snocT {k m : Nat} {acc : List T} {D : Addr} {FD F : List Addr} {u : T} {y : V} (s : Sta K f (tmp (k + 1) (.lst acc) (.ref D) FD :: τ ++ [tmp m u y F]) ρ σ H) (hnr : ∀ e ∈ ρ, (∀ t, e ≠ .ro t) ∧ ∀ j i t, e ≠ .al j i t) (hf : fit k m u) :
    ∃ (vs : List V) (F' : List Addr), H D = some (.lst vs) ∧ vs.length = acc.length ∧ Sta K f (tmp (k + 1) (.lst (acc ++ [u])) (.ref D) F' :: τ) ρ σ (upd H D (.lst (vs ++ [y]))) := by
  have s1 : Sta K f (τ ++ [tmp m u y F]) (ρ ++ [.ow (k + 1) (.lst acc)]) (σ ++ [some (.ref D)]) H := Sta.toSlot s
  have hl : ρ.length = σ.length := by obtain ⟨S, rs, s⟩ := s; rw [← s.len, s.lenσ]
  obtain ⟨vs, h1, h2, _, _, h3⟩ := s1.mutL (j := ρ.length) (n := k + 1) (p := []) (getElem?_last) rfl (by rw [hl]; exact getElem?_last) .nil (by simp) (by simpa using hf)
  refine ⟨vs, ?_⟩
  have e : (TL.killJ [ρ.length] (ρ ++ [.ow (k + 1) (.lst acc)])).set ρ.length ((Ent.ow (k + 1) (.lst acc)).put (T.put (.lst (acc ++ [u])) [] (.lst acc))) = ρ ++ [.ow (k + 1) (.lst (acc ++ [u]))] := by
    have e1 : TL.killJ [ρ.length] ρ = ρ := by
      unfold TL.killJ
      rw [List.map_congr_left (g := id) (fun x hx => ?_), List.map_id]
      obtain ⟨a, b⟩ := hnr x hx
      cases x <;> first | rfl | exact absurd rfl (a _) | exact absurd rfl (b _ _ _)
    have e2 : TL.killJ [ρ.length] (ρ ++ [.ow (k + 1) (.lst acc)]) = ρ ++ [.ow (k + 1) (.lst acc)] := by
      show (ρ ++ _).map _ = _
      rw [List.map_append]
      show TL.killJ [ρ.length] ρ ++ _ = _
      rw [e1]; rfl
    rw [e2, List.set_append_right _ _ (Nat.le_refl _), Nat.sub_self]
    rfl
  rw [e] at h3
  obtain ⟨F', h4⟩ := h3.toTmp fun e he => (hnr e he).2
  exact ⟨F', h1, h2, h4⟩
end
/-! ### list comprehensions -/
def canG (K : PySem.W.Frag) (js : List Nat) (g : T → List Ent → (List Ent → Prop) → Prop) : TG := fun v σ H Q => ∃ (f : Fm) (τ : List Root) (ρ : List Ent) (S : Addr → Prop) (rs : List Root) (t : T) (R : List Ent → Prop), StaW K f τ ρ σ H S rs ∧ Shr K H S t v ∧ g t ρ R ∧ ∀ ρ' σ' rs', R ρ' → Offs js σ σ' → StaW K f τ ρ' σ' H S rs' → Q σ' H
theorem TTg.can {X : Cx} {tg : Expr} {js : List Nat} {g : T → List Ent → (List Ent → Prop) → Prop} (h : TTg X tg js g) : PG X tg (canG X.K js g) := by
  obtain ⟨gg, pg, kg⟩ := h.ok
  refine ⟨fun pins s σ H v u Q I r hh => ?_⟩
  obtain ⟨f, τ, ρ, S, rs, t, R, h1, h2, h3, h4⟩ := hh
  exact pg.run pins s σ H v u Q I r (kg f τ ρ σ H S rs t v Q R h1 h2 h3 h4)
def canE (K : PySem.W.Frag) (v : List Ent → (Nat → T → List Ent → Prop) → Prop) : TE := fun σ H Q => ∃ (f : Fm) (τ : List Root) (ρ : List Ent) (R : Nat → T → List Ent → Prop), Sta K f τ ρ σ H ∧ v ρ R ∧ ∀ n t ρ' v F H', R n t ρ' → Sta K f (τ ++ [tmp n t v F]) ρ' σ H' → Q v H'
theorem TVE.can {X : Cx} {e : Expr} {v : List Ent → (Nat → T → List Ent → Prop) → Prop} (h : TVE X e v) : PE X e (canE X.K v) := by
  obtain ⟨gg, pg, kg⟩ := h.ok
  refine ⟨fun pins s σ H Q I hh => ?_⟩
  obtain ⟨f, τ, ρ, R, h1, h2, h3⟩ := hh
  exact pg.run pins s σ H Q I (kg f τ ρ σ H Q R h1 h2 h3)
structure TVTs (X : Cx) (ifs : List Expr) (w : List Ent → (Bool → List Ent → Prop) → Prop) : Prop where
  ok : ∃ tt : TT, PTs X ifs tt ∧ ∀ (f : Fm) (τ : List Root) (ρ : List Ent) (σ : St) (H : Hp) (Q : Bool → Hp → Prop) (R : Bool → List Ent → Prop), Sta X.K f τ ρ σ H → w ρ R → (∀ b ρ' H', R b ρ' → Sta X.K f τ ρ' σ H' → Q b H') → tt σ H Q
def wYes : List Ent → (Bool → List Ent → Prop) → Prop := fun ρ R => R true ρ
theorem tvts_nil {X : Cx} : TVTs X [] wYes := ⟨⟨_, pts_nil, fun f τ ρ σ H Q R hs hw hq => hq true ρ H hw hs⟩⟩
theorem tvts_one {X : Cx} {c : Expr} {vt : List Ent → (Bool → List Ent → Prop) → Prop} (h : TVT X c vt) : TVTs X [c] vt := by
  obtain ⟨tt, pt, kt⟩ := h.ok
  exact ⟨⟨_, pts_one pt, kt⟩⟩
def canT (K : PySem.W.Frag) (w : List Ent → (Bool → List Ent → Prop) → Prop) : TT := fun σ H Q => ∃ (f : Fm) (τ : List Root) (ρ : List Ent) (R : Bool → List Ent → Prop), Sta K f τ ρ σ H ∧ w ρ R ∧ ∀ b ρ' H', R b ρ' → Sta K f τ ρ' σ H' → Q b H'
theorem TVTs.can {X : Cx} {ifs : List Expr} {w : List Ent → (Bool → List Ent → Prop) → Prop} (h : TVTs X ifs w) : PTs X ifs (canT X.K w) := by
  obtain ⟨gg, pg, kg⟩ := h.ok
  refine ⟨fun pins s σ H Q I hh => ?_⟩
  obtain ⟨f, τ, ρ, R, h1, h2, h3⟩ := hh
  exact pg.run pins s σ H Q I (kg f τ ρ σ H Q R h1 h2 h3)
theorem wipe_eq {vs : List Nat} {σ σ2 : St} (h : Offs vs σ σ2) : wipe σ2 vs = wipe σ vs := by
  apply List.ext_getElem?
  intro m
  by_cases hm : m ∈ vs
  · have key : ∀ (vs : List Nat) (σ : St), m ∈ vs → (wipe σ vs)[m]? = if m < σ.length then some none else none := by
      intro vs
      induction vs with
      | nil => intro σ h; cases h
      | cons v vs ih =>
        intro σ h
        unfold wipe
        rw [List.getElem?_set, wipe_length]
        by_cases e : v = m
        · rw [if_pos e, e]
        · rw [if_neg e]
          exact ih σ ((List.mem_cons.mp h).resolve_left fun z => e z.symm)
    rw [key vs σ2 hm, key vs σ hm, h.1]
  · rw [wipe_out hm, wipe_out hm]
    exact h.2 m hm
theorem offs_wipe {vs : List Nat} {σ : St} : Offs vs σ (wipe σ vs) := ⟨wipe_length _ _, fun m h => wipe_out h⟩
theorem Offs.symm {vs : List Nat} {σ σ2 : St} (h : Offs vs σ σ2) : Offs vs σ2 σ := ⟨h.1.symm, fun m hm => (h.2 m hm).symm⟩
def lcOk (k : Nat) (hT : T → List Ent → (List Ent → Prop) → Prop) (vt : List Ent → (Bool → List Ent → Prop) → Prop) (ve : List Ent → (Nat → T → List Ent → Prop) → Prop) (vs : List Nat) (R : Nat → T → List Ent → Prop) (_ : KDep R) (ts : List T) (ρ1 : List Ent) : Prop :=
  ∃ I : Nat → List T → List Ent → Prop, I 0 [] (notIn vs ρ1) ∧ (∀ i t acc ρ, ts[i]? = some t → I i acc ρ → hT t ρ fun ρ2 => vt ρ2 fun b ρ3 => if b = true then ve ρ3 fun n u ρ4 => fit k n u ∧ acc.length < 1000000 ∧ I (i + 1) (acc ++ [u]) (notIn vs ρ4) else I (i + 1) acc (notIn vs ρ3)) ∧
    ∀ acc ρ, I ts.length acc ρ → R (k + 1) (.lst acc) ρ
def vLc (k : Nat) (wi : List Ent → (List T → List Ent → Prop) → Prop) (hT : T → List Ent → (List Ent → Prop) → Prop) (vt : List Ent → (Bool → List Ent → Prop) → Prop) (ve : List Ent → (Nat → T → List Ent → Prop) → Prop) (vs : List Nat) : List Ent → (Nat → T → List Ent → Prop) → Prop := fun ρ R => wi ρ (lcOk k hT vt ve vs R ())
section
variable {X : Cx} {W : WX} {elt tg iter : Expr} {ifs : List Expr} {scope : Scope} {own : List (Str × Nat)} {pos : Pos} {js vs : List Nat} {k : Nat} {wi : List Ent → (List T → List Ent → Prop) → Prop} {hT : T → List Ent → (List Ent → Prop) → Prop} {vt : List Ent → (Bool → List Ent → Prop) → Prop} {ve : List Ent → (Nat → T → List Ent → Prop) → Prop}
theorem lc_read {K : PySem.W.Frag} {ti : TI} (ki : ∀ (f : Fm) (τ : List Root) (ρ : List Ent) (σ : St) (H : Hp) (Q : It → Hp → Prop) (R : List T → List Ent → Prop), Sta K f τ ρ σ H → wi ρ R → (∀ J us vs ts ρ1 H1, R ts ρ1 → ItH K J us vs ts → Sta K f (τ ++ shRoots us vs) ρ1 σ H1 → Q J H1) → ti σ H Q)
    (hj : ∀ j ∈ js, j ∈ vs) {f : Fm} {τ : List Root} {ρ : List Ent} {σ : St} {H : Hp} {Q : VK} {R : Nat → T → List Ent → Prop} (hs : Sta K f τ ρ σ H) (hw : vLc k wi hT vt ve vs ρ R) (hq : ∀ n t ρ' v F H', R n t ρ' → Sta K f (τ ++ [tmp n t v F]) ρ' σ H' → Q v H') :
    tLc ti (canG K js hT) (canT K vt) (canE K ve) vs σ H Q := by
  refine ki f τ ρ σ H _ _ hs hw fun J us ws ts ρ1 H1 h2 ith s1 D hD => ?_
  obtain ⟨I, i0, hI, hend⟩ := h2
  have wk : Walk J ts.length (fun H => ∃ S, Shrs K H S us ws) (fun i H x H' => J.yld i H x H' ∧ ∃ S, Shrs K H S us ws) :=
    ⟨fun i H hi h => let ⟨S, h⟩ := h; ith.goes i H S h hi, fun H h => let ⟨S, h⟩ := h; ith.stops H S h, fun i H x H' _ h y => ⟨y, h⟩⟩
  let Pv : Nat → Hp → Prop := fun i H => ∃ acc ρ0 FD, I i acc (notIn vs ρ0) ∧ Sta K f (tmp (k + 1) (.lst acc) (.ref D) FD :: (τ ++ shRoots us ws)) (notIn vs ρ0) (wipe σ vs) H
  have pop1 : ∀ {r : Root} {H ρ σ}, Sta K f (r :: (τ ++ shRoots us ws)) ρ σ H → Sta K f (τ ++ shRoots us ws) ρ σ H := fun s => s.rot.pop
  have swap : ∀ {r : Root} {H ρ σ}, Sta K f (r :: (τ ++ shRoots us ws)) ρ σ H → Sta K f (r :: τ) ρ σ H := fun {r H ρ σ} s => by
    have s : Sta K f ((r :: τ) ++ shRoots us ws) ρ σ H := s
    exact s.pop
  refine lc_it wk Pv ?_ (fun i H _ h => ?_) (fun i x H H' hi h y => ?_) fun H h => ?_
  · obtain ⟨S, rs, s⟩ := s1.notIn vs (offs_wipe (σ := σ))
    exact ⟨[], ρ1, _, i0, Sta.torF ⟨S, rs, s.pushNew (kd := .lst) hD rfl (n := k) .nil⟩⟩
  · obtain ⟨acc, ρ0, FD, im, s⟩ := h
    exact (pop1 s).shr1 ith.len
  · obtain ⟨acc, ρ0, FD, im, s⟩ := h
    obtain ⟨S, rs, s⟩ := s
    have s0 : StaW K f ((tmp (k + 1) (.lst acc) (.ref D) FD :: τ) ++ shRoots us ws ++ []) (notIn vs ρ0) (wipe σ vs) H S rs := by rw [List.append_nil]; exact s
    obtain ⟨t, e1, sm, x1⟩ := ith.yields i H S x H' hi (s0.shr ith.len) y.1
    refine ⟨f, _, _, _, rs, t, _, s.grow sm, shr_grown x1, hI i t acc _ e1 im, fun ρ2 σ2 rs2 h2 o2 s2 => ?_⟩
    have o3 : Offs vs σ σ2 := ⟨o2.1.trans (wipe_length _ _), fun m hm => (o2.2 m fun z => hm (hj m z)).trans (wipe_out hm)⟩
    have o4 : Offs vs σ2 (wipe σ vs) := ⟨o2.1.symm, fun m hm => (o2.2 m fun z => hm (hj m z)).symm⟩
    refine ⟨wipe_eq o3, f, _, ρ2, _, ⟨_, _, s2⟩, h2, fun b ρ3 H3 h3 s3 => ?_⟩
    cases b with
    | false =>
      rw [if_neg Bool.false_ne_true] at h3 ⊢
      exact ⟨acc, ρ3, FD, h3, s3.notIn vs o4⟩
    | true =>
      rw [if_pos rfl] at h3 ⊢
      refine ⟨f, _, ρ3, _, s3, h3, fun n u ρ4 y4 F4 H4 h4 s4 => ?_⟩
      obtain ⟨h5, h6, h7⟩ := h4
      have s5 := s4.notIn vs o4
      obtain ⟨xs, F', q1, q2, q3⟩ := Sta.snocT s5 (notIn_nr vs ρ4) h5
      exact ⟨xs, q1, by rw [q2]; exact Nat.lt_of_lt_of_le h6 million, acc ++ [u], ρ4, F', h7, q3⟩
  · obtain ⟨acc, ρ0, FD, im, s⟩ := h
    have s2 := (swap s).notIn vs (offs_wipe (σ := σ)).symm
    rw [notIn_idem] at s2
    exact hq (k + 1) (.lst acc) _ _ FD H (hend acc _ im) s2.rot
theorem tv_lc (k : Nat) (js : List Nat) (hc : X.calm = true) (hN : X.N.Nodup) (hi : TIt X tg iter wi) (ok : BlkOk X.N X.env.scope scope own)
    (hg : ∀ (s : Shared) (H : Hp) (C : Addr) (cl : List (Str × Addr)) (fp : List Addr), TTg (X.blk s H scope (compEnvC scope cl C X.env) fp) tg js hT) (ht : ∀ (s : Shared) (H : Hp) (C : Addr) (cl : List (Str × Addr)) (fp : List Addr), TVTs (X.blk s H scope (compEnvC scope cl C X.env) fp) ifs vt)
    (he : ∀ (s : Shared) (H : Hp) (C : Addr) (cl : List (Str × Addr)) (fp : List Addr), TVE (X.blk s H scope (compEnvC scope cl C X.env) fp) elt ve) (hj : ∀ j ∈ js, j ∈ own.map (·.2) := by decide) (hs : ∀ x, foldedSetIterable iter X.env x = pure x := by intro _; rfl) :
    TVE X (.ListComp elt [⟨tg, iter, ifs, 0⟩] scope pos) (vLc k wi hT vt ve (own.map (·.2))) := by
  obtain ⟨ti, pi, ki⟩ := hi.ok
  exact ⟨⟨_, pe_lc (g := canG X.K js hT) (tt := canT X.K vt) (te := canE X.K ve) hc hN pi ok (fun s H C cl fp => (hg s H C cl fp).can) (fun s H C cl fp => (ht s H C cl fp).can) (fun s H C cl fp => (he s H C cl fp).can) hs, fun f τ ρ σ H Q R h1 hw hq => lc_read ki hj h1 hw hq⟩⟩
theorem ts_setLc (i : Nat) {y : Str} {py spos : Pos} (k : Nat) (js : List Nat) (hc : X.calm = true) (hN : X.N.Nodup) (hy : X.N[i]? = some y) (hyl : X.env.scope.names.lookup y = some .local)
    (hsw : swapsWith (.ListComp elt [⟨tg, iter, ifs, 0⟩] scope pos) (some (.Name y py)) spos.line X.env = pure true) (hi : TIt X tg iter wi) (ok : BlkOk X.N X.env.scope scope own)
    (hg : ∀ (s : Shared) (H : Hp) (C : Addr) (cl : List (Str × Addr)) (fp : List Addr), TTg (X.blk s H scope (compEnvC scope cl C X.env) fp) tg js hT) (ht : ∀ (s : Shared) (H : Hp) (C : Addr) (cl : List (Str × Addr)) (fp : List Addr), TVTs (X.blk s H scope (compEnvC scope cl C X.env) fp) ifs vt)
    (he : ∀ (s : Shared) (H : Hp) (C : Addr) (cl : List (Str × Addr)) (fp : List Addr), TVE (X.blk s H scope (compEnvC scope cl C X.env) fp) elt ve) (hj : ∀ j ∈ js, j ∈ own.map (·.2) := by decide) (hs : ∀ x, foldedSetIterable iter X.env x = pure x := by intro _; rfl) :
    TS1 X W (.Assign [.Name y py] (.ListComp elt [⟨tg, iter, ifs, 0⟩] scope pos) spos) (uSet i (vLc k wi hT vt ve (own.map (·.2)))) := by
  obtain ⟨ti, pi, ki⟩ := hi.ok
  refine ⟨⟨_, ps_setLc (g := canG X.K js hT) (tt := canT X.K vt) (te := canE X.K ve) hc hN hy hyl hsw pi ok (fun s H C cl fp => (hg s H C cl fp).can) (fun s H C cl fp => (ht s H C cl fp).can) (fun s H C cl fp => (he s H C cl fp).can) hs, fun f τ ρ σ H De D h1 hl hw => ?_⟩⟩
  exact lc_read ki hj h1 hw fun n t ρ' v F H' h s => hl.nx _ _ H' h.2 (s.setV h.1)
end
end TL
set_option Elab.async false
set_option linter.all false
set_option maxRecDepth 100000
namespace TL
open PySem PySem.Spec PyProof.Rows L2
/-! ### the list that a variable stands for -/
def Plc (ρ : List Ent) (k : Nat) : Option (Nat × List Nat × List T × Nat) := match ρ[k]? with
  | some (.ow (n + 1) (.nd .lst ts)) => some (k, [], ts, n)
  | some (.io (n + 1) (.nd .lst ts)) => some (k, [], ts, n)
  | some (.al j i (.nd .lst ts)) => match ρ[j]?.bind Ent.own with
    | some (n + 2, _) => if j = k then none else some (j, [i], ts, n)
    | _ => none
  | _ => none
def putAt (j : Nat) (p : List Nat) (us : List T) (ρ : List Ent) : List Ent := match ρ[j]? with
  | some e => match e.own with
    | some (_, U) => (killJ [j] ρ).set j (e.put (T.put (.lst us) p U))
    | none => ρ
  | none => ρ
def plSet (k : Nat) (ρ : List Ent) (us : List T) : List Ent := match ρ[k]? with
  | some (.al j i _) => setE (putAt j [i] us ρ) k (.al j i (.lst us))
  | _ => putAt k [] us ρ
section
variable {K : PySem.W.Frag} {f : Fm} {S S' : Addr → Prop} {H H' : Hp} {τ τ' ms : List Root} {ρ : List Ent} {σ σ' : St}
theorem Owns.int : ∀ {n : Nat} {ts : List T} {vs : List V} {F : List Addr}, Owns K H S n ts vs F → ∀ {q : Nat} {i : Int}, ts[q]? = some (.int i) → vs[q]? = some (.int i)
  | _, _, _, _, .nil, q, i, h => by simp at h
  | _, _, _, _, .cons o r, 0, i, h => by
    have h := Option.some.inj h
    subst h
    cases o
    rfl
  | _, _, _, _, .cons o r, q + 1, i, h => by
    rw [List.getElem?_cons_succ] at h ⊢
    exact Owns.int r h
theorem own_lst {n : Nat} {ts : List T} {v : V} {F : List Addr} (h : Own K H S (n + 1) (.lst ts) v F) : ∃ (a : Addr) (vs : List V), v = .ref a ∧ H a = some (.lst vs) ∧ vs.length = ts.length ∧ ∀ (q : Nat) (i : Int), ts[q]? = some (.int i) → vs[q]? = some (.int i) := by
  obtain ⟨a, vs, G, rfl, rfl, q, r⟩ := own_nlst h
  exact ⟨_, _, rfl, q, (Owns.length r).symm, fun _ _ => r.int⟩
/-- slot k becomes a name for item i of what slot j owns -/
theorem way_nonflat {U : T} {v0 v : V} {p : List Nat} {kd : NK} {ts : List T} (w : Way H U v0 p (.nd kd ts) v) : U.flat = false := by
  cases h : U.flat with
  | false => rfl
  | true => exact (flat_no_way w rfl h).elim
theorem Sta.mkAl {j i k n : Nat} {e : Ent} {U : T} {kd : NK} {ts : List T} {v0 v : V} (s : Sta K f τ ρ σ H) (he : ρ[j]? = some e) (ho : e.own = some (n + 2, U)) (hv0 : σ[j]? = some (some v0)) (w : Way H U v0 [i] (.nd kd ts) v) (hk : k < ρ.length) (hjk : j ≠ k) :
    Sta K f τ (setE ρ k (.al j i (.nd kd ts))) (σ.set k (some v)) H := by
  obtain ⟨S, rs, s⟩ := s
  obtain ⟨r, g1, g2, g3, g4⟩ := s.get he
  obtain ⟨q1, q2, q3⟩ := s.good.slot j r g1
  obtain ⟨v0', e1, own⟩ := q1.own (g2 ▸ ho)
  rw [hv0] at g3
  have e0 : v0 = v0' := by
    rw [e1] at g3
    exact Option.some.inj (Option.some.inj g3)
  subst e0
  obtain ⟨Fi, o2, sub⟩ := own.sub w (by simp) (.inl (way_nonflat w)) rfl
  refine ⟨S, _, s.setE0 (v := v) hk ⟨rfl, v, rfl⟩ (fun _ _ z => (nomatch z)) fun j' k' t' z => ?_⟩
  cases z
  exact ⟨hjk, r, n + 1, U, v0, Fi, g4, g2 ▸ ho, e1, w, by simpa using o2, sub⟩
theorem Sta.plc {k j d : Nat} {p : List Nat} {ts : List T} (s : Sta K f τ ρ σ H) (h : Plc ρ k = some (j, p, ts, d)) :
    ∃ (a : Addr) (e : Ent) (U : T) (v0 : V), σ[k]? = some (some (.ref a)) ∧ ρ[j]? = some e ∧ e.own = some (d + p.length + 1, U) ∧ σ[j]? = some (some v0) ∧ Way H U v0 p (.lst ts) (.ref a) ∧ ∃ vs, H a = some (.lst vs) ∧ vs.length = ts.length ∧ ∀ (q : Nat) (i : Int), ts[q]? = some (.int i) → vs[q]? = some (.int i) := by
  obtain ⟨S, rs, s⟩ := s
  have own0 : ∀ {e : Ent} {n : Nat} {ts : List T}, ρ[k]? = some e → e.own = some (n + 1, .lst ts) → ∃ (a : Addr), σ[k]? = some (some (.ref a)) ∧ ∃ vs, H a = some (.lst vs) ∧ vs.length = ts.length ∧ ∀ (q : Nat) (i : Int), ts[q]? = some (.int i) → vs[q]? = some (.int i) := by
    intro e n ts he ho
    obtain ⟨r, g1, g2, g3, g4⟩ := s.get he
    obtain ⟨v0, e1, own⟩ := (s.good.slot k r g1).1.own (g2 ▸ ho)
    obtain ⟨a, vs, rfl, q, l⟩ := own_lst own
    exact ⟨a, by rw [g3, e1], vs, q, l⟩
  unfold Plc at h
  split at h
  · rename_i n ts' he
    cases h
    obtain ⟨a, h1, h2⟩ := own0 he rfl
    exact ⟨a, _, _, .ref a, h1, he, rfl, h1, .nil, h2⟩
  · rename_i n ts' he
    cases h
    obtain ⟨a, h1, h2⟩ := own0 he rfl
    exact ⟨a, _, _, .ref a, h1, he, rfl, h1, .nil, h2⟩
  · rename_i j' i ts' he
    obtain ⟨r, n, U, v0, v, Fi, a1, a2, a3, a4, a5, a6, a7⟩ := (s.al _ _ _ _ he).ex
    have ej : ρ[j']? = some r.e := by rw [← s.e, List.getElem?_map, a1]; rfl
    have ev : σ[j']? = some (some v0) := by rw [← s.o, List.getElem?_map, a1, ← a3]; rfl
    split at h
    · rename_i m Us' hown
      rw [ej] at hown
      have hown : r.e.own = some (m + 2, Us') := hown
      rw [a2] at hown
      cases hown
      split at h
      · cases h
      · cases h
        obtain ⟨a, vs, rfl, q, l⟩ := own_lst a6
        exact ⟨a, r.e, _, v0, a4, ej, a2, ev, a5, vs, q, l⟩
    · cases h
  · cases h
theorem plc_cases {k j d : Nat} {p : List Nat} {ts : List T} (h : Plc ρ k = some (j, p, ts, d)) : (p = [] ∧ j = k ∧ ∃ e, ρ[k]? = some e ∧ e.own = some (d + 1, .lst ts)) ∨ (∃ i, p = [i] ∧ ρ[k]? = some (.al j i (.lst ts)) ∧ j ≠ k ∧ ∃ e Us, ρ[j]? = some e ∧ e.own = some (d + 2, Us)) := by
  unfold Plc at h
  split at h
  · rename_i he; cases h; exact .inl ⟨rfl, rfl, _, he, rfl⟩
  · rename_i he; cases h; exact .inl ⟨rfl, rfl, _, he, rfl⟩
  · rename_i he
    split at h
    · rename_i m Us' hown
      split at h
      · cases h
      · rename_i hne
        cases h
        cases q : ρ[j]? with
        | none => rw [q] at hown; cases hown
        | some e =>
          rw [q] at hown
          exact .inr ⟨_, rfl, he, hne, e, Us', rfl, hown⟩
    · cases h
  · cases h
theorem Way.one {U t : T} {v0 v : V} {i : Nat} (w : Way H U v0 [i] t v) : (∃ b kd o vs ts, U = .nd kd ts ∧ v0 = .ref b ∧ H b = some o ∧ NK.is kd o vs ∧ vs[i]? = some v ∧ ts[i]? = some t) ∨ (∃ b vs ts, U = .tup ts ∧ v0 = .ref b ∧ H b = some (.tup vs) ∧ vs[i]? = some v ∧ ts[i]? = some t) := by
  cases w with
  | nd h1 h0 h2 h3 w => cases w; exact .inl ⟨_, _, _, _, _, rfl, rfl, h1, h0, h2, h3⟩
  | tup h1 h2 h3 w => cases w; exact .inr ⟨_, _, _, rfl, rfl, h1, h2, h3⟩
theorem plSet_var {k : Nat} {us : List T} (h : ∀ j i t, ρ[k]? ≠ some (.al j i t)) : plSet k ρ us = putAt k [] us ρ := by
  unfold plSet
  split
  · rename_i e; exact absurd e (h _ _ _)
  · rfl
theorem putAt_eq {j n : Nat} {p : List Nat} {us : List T} {e : Ent} {U : T} (he : ρ[j]? = some e) (ho : e.own = some (n, U)) : putAt j p us ρ = (killJ [j] ρ).set j (e.put (T.put (.lst us) p U)) := by
  unfold putAt
  simp only [he, ho]
theorem killJ_len {js : List Nat} : (killJ js ρ).length = ρ.length := by unfold killJ; simp
/-- the list that variable k stands for, changed -/
theorem Sta.plMut {m k j d : Nat} {t2 : T} {v2 : V} {F2 : List Addr} {p : List Nat} {ts : List T} (s : Sta K f (τ ++ [tmp m t2 v2 F2]) ρ σ H) (h : Plc ρ k = some (j, p, ts, d)) (hf : fit d m t2) :
    ∃ (a : Addr) (vs : List V), σ[k]? = some (some (.ref a)) ∧ H a = some (.lst vs) ∧ vs.length = ts.length ∧ (∀ i, i < ts.length → Sta K f τ (plSet k ρ (ts.set i t2)) σ (upd H a (.lst (vs.set i v2)))) ∧
      Sta K f τ (plSet k ρ (ts ++ [t2])) σ (upd H a (.lst (vs ++ [v2]))) := by
  obtain ⟨a, e, U, v0, h1, h2, h3, h4, w, vs0, q0, l0⟩ := s.plc h
  have e1 : d + p.length + 1 - p.length - 1 = d := by omega
  obtain ⟨vs, g1, g2, g3, g4, g5⟩ := s.mutL h2 h3 h4 w (by omega) (by rw [e1]; exact hf)
  refine ⟨a, vs, h1, g1, g2, ?_⟩
  have kl : k < ρ.length := by
    rcases plc_cases h with ⟨_, rfl, e, he, _⟩ | ⟨i, _, he, _⟩
    · exact (List.getElem?_eq_some_iff.mp he).1
    · exact (List.getElem?_eq_some_iff.mp he).1
  have key : ∀ (us : List T) (ws : List V), Sta K f τ ((TL.killJ [j] ρ).set j (e.put (T.put (.lst us) p U))) σ (upd H a (.lst ws)) → Sta K f τ (plSet k ρ us) σ (upd H a (.lst ws)) := fun us ws z => by
    rcases plc_cases h with ⟨rfl, rfl, e', he, ho⟩ | ⟨i, rfl, he, hne, e', Us, he', ho'⟩
    · rw [plSet_var (fun j i t y => by rw [he] at y; cases y; cases ho), putAt_eq h2 h3]
      exact z
    · rw [h2] at he'; cases he'
      rw [h3] at ho'
      cases ho'
      have e2 : plSet k ρ us = setE (putAt j [i] us ρ) k (.al j i (.lst us)) := by unfold plSet; rw [he]
      rw [e2, putAt_eq h2 h3]
      have hj : j < ρ.length := (List.getElem?_eq_some_iff.mp h2).1
      have nv0 := g3 (by simp)
      have ow := put_own h3 (T.put (.lst us) [i] U)
      have w2 : Way (upd H a (.lst ws)) (T.put (.lst us) [i] U) v0 [i] (.lst us) (.ref a) := by
        rcases w.one with ⟨b, kd, ob, xs, ys, z1, z2, z3, z0, z4, z5⟩ | ⟨b, xs, ys, z1, z2, z3, z4, z5⟩
        · subst z1
          subst z2
          have hba : b ≠ a := fun z => nv0 (by rw [z])
          have hi : i < ys.length := (List.getElem?_eq_some_iff.mp z5).1
          exact .nd (by rw [upd_ne hba]; exact z3) z0 z4 (by rw [List.getElem?_set_self hi]; rfl) .nil
        · subst z1
          subst z2
          have hba : b ≠ a := fun z => nv0 (by rw [z])
          have hi : i < ys.length := (List.getElem?_eq_some_iff.mp z5).1
          exact .tup (by rw [upd_ne hba]; exact z3) z4 (by rw [List.getElem?_set_self hi]; rfl) .nil
      have s2 := z.mkAl (j := j) (i := i) (k := k) (n := d) (U := T.put (.lst us) [i] U) (ts := us) (by rw [List.getElem?_set_self (by rw [killJ_len]; exact hj)]) ow h4 w2 (by rw [List.length_set, killJ_len]; exact kl) hne
      rw [set_self h1] at s2
      exact s2
  exact ⟨fun i hi => key _ _ (g4 i hi), key _ _ g5⟩
end
/-! ### statements that change lists -/
section
variable {X : Cx} {W : WX} {e a b c ie : Expr} {pos p p2 pos' spos tpos : Pos} {w wi : List Ent → (T → Prop) → Prop} {v : List Ent → (Nat → T → List Ent → Prop) → Prop}
def uSt (k : Nat) (v : List Ent → (Nat → T → List Ent → Prop) → Prop) (wi : List Ent → (T → Prop) → Prop) : TEnds → List Ent → Prop := fun De ρ => v ρ fun m t2 ρ1 => match Plc ρ1 k with
  | some (_, _, ts, d) => wi ρ1 fun ti => match ti with
    | .int z => match ixN ts.length z with
      | some q => fit d m t2 ∧ De.nx (plSet k ρ1 (ts.set q t2))
      | none => False
    | _ => False
  | none => False
theorem ixN_lt {n q : Nat} {z : Int} (h : ixN n z = some q) : q < n := (ixN_seq h).2.1
/-- x[i] = e -/
theorem ts_store (k : Nat) {x : Str} (he : TVE X e v) (hi : TPE X ie wi) (hN : X.N[k]? = some x := by rfl) (hv : Vis X.env.scope x := by first | exact Or.inl rfl | exact Or.inr (Or.inl rfl) | exact Or.inr (Or.inr rfl)) (hd : (x == ("__debug__" : Str)) = false := by decide)
    (hcd : (x == ("__classdict__" : Str)) = false := by decide) (hs : swapsWithSole [.Subscript (.Name x p) ie tpos] e pos.line X.env = pure false := by rfl) (hw : swappedStores [.Subscript (.Name x p) ie tpos] e X.env = pure none := by rfl)
    (h1 : (assignEach [.Subscript (.Name x p) ie tpos] X.env).map (·.2) = [assign (.Subscript (.Name x p) ie tpos) X.env] := by rfl)
    (ha : ∀ v, assign (.Subscript (.Name x p) ie tpos) X.env v = (do
      let ov ← holding [v] (eval (.Name x p) X.env)
      let iv ← holding [v, ov] (eval ie X.env)
      standAt tpos
      holding [v, ov, iv] (setItem ov iv v)
      release [v, ov, iv] []) := by intro _; rfl) : TS1 X W (.Assign [.Subscript (.Name x p) ie tpos] e pos) (uSt k v wi) := by
  obtain ⟨te, pe, ke⟩ := he.ok
  obtain ⟨ti, pi, ki⟩ := hi.ok
  refine ⟨⟨_, ps_asg pe (pg_sub (pe_var hN hv hd hcd) pi set_list ha) hs hw h1, fun f τ ρ σ H De D h1 hl hw => ?_⟩⟩
  refine ke f τ ρ σ H _ _ h1 hw fun m t2 ρ1 v2 F2 H1 h2 s1 => ?_
  have rd := s1.rdAll
  cases q : Plc ρ1 k with
  | none => simp only [q] at h2
  | some x =>
    obtain ⟨j, p, ts, d⟩ := x
    simp only [q] at h2
    obtain ⟨a, e, U, v0, g1, _⟩ := s1.plc q
    refine ⟨.ref a, g1, ki _ ρ1 σ H1 _ _ rd h2 fun t iv H2 h3 sm x1 => ?_⟩
    cases t using T.cs <;> first | exact h3.elim | skip
    rename_i z
    have h3 : match ixN ts.length z with
      | some q => fit d m t2 ∧ De.nx (plSet k ρ1 (ts.set q t2))
      | none => False := h3
    cases qz : ixN ts.length z with
    | none => simp only [qz] at h3
    | some y =>
      simp only [qz] at h3
      obtain ⟨a', vs, b1, b2, b3, b4, _⟩ := (s1.same sm).plMut q h3.1
      rw [g1] at b1
      cases b1
      exact ⟨a, vs, z, y, rfl, shr_int x1, b2, by rw [b3]; exact qz, hl.nx _ σ _ h3.2 (b4 y (ixN_lt qz))⟩
def rGetL : V → V → Hp → VK → Prop := fun o i H Q => ∃ p xs k v, o = .ref p ∧ i = .int k ∧ H p = some (.lst xs) ∧ atI xs k = some v ∧ Q v H
theorem get_list : PGet X rGetL := by
  intro pins s σ H o i ov iv Q I ro ri h
  obtain ⟨p, xs, k, z, rfl, rfl, hq, he, q⟩ := h
  cases ro
  obtain ⟨t, rfl⟩ := ri
  obtain ⟨its, r, pl, hz⟩ := I.list (SqS.sq (S := fun _ => True) ⟨hq, trivial⟩)
  obtain ⟨j, h1, h2, h3, h4, h5⟩ := atI_get he
  obtain ⟨w, ew, rw'⟩ := r.get h2
  have hl := r.length
  have hn := line63
  have fin : EP X pins σ Q w s := ⟨z, H, I, rw', q⟩
  by_cases h0 : 0 ≤ k
  · have hj : k.toNat = j := by
      rw [seqIndex_of h0 h5] at h1
      exact Option.some.inj h1
    exact wpAny_getItem_list pl.isList h0 (by omega) (by rw [hj]; simpa using ew) fin
  · have hj : (k + (its.toArray.size : Int)).toNat = j := by
      rw [seqIndex_neg (by omega) h4] at h1
      rw [List.size_toArray, ← hl]
      exact Option.some.inj h1
    exact wpAny_getItem_list_neg pl.isList (by omega) (by rw [List.size_toArray] <;> omega) (by omega) (by rw [hj]; simpa using ew) fin
def uAu (k : Nat) (g : Int → Int → Int) (wi w : List Ent → (T → Prop) → Prop) : TEnds → List Ent → Prop := fun De ρ => match Plc ρ k with
  | some (_, _, ts, _) => wi ρ fun ti => match ti with
    | .int z => match ixN ts.length z with
      | some q => match ts[q]? with
        | some (.int old) => w ρ fun t => match t with
          | .int y => De.nx (plSet k ρ (ts.set q (.int (g old y))))
          | _ => False
        | _ => False
      | none => False
    | _ => False
  | none => False
/-- x[i] op= e on ints -/
theorem ts_aug (k : Nat) {x : Str} {op : Operator} {g : Int → Int → Int} (hop : PIp X op (ipI g)) (hi : TPE X ie wi) (he : TPE X e w) (hN : X.N[k]? = some x := by rfl) (hv : Vis X.env.scope x := by first | exact Or.inl rfl | exact Or.inr (Or.inl rfl) | exact Or.inr (Or.inr rfl)) (hd : (x == ("__debug__" : Str)) = false := by decide)
    (hcd : (x == ("__classdict__" : Str)) = false := by decide)
    (ha : ∀ ov iv new, augStore ie ov iv new = (do holding [new, ov, iv] (setItem ov iv new); release [new, ov, iv] []; pure .next) := by intros; rfl) : TS1 X W (.AugAssign (.Subscript (.Name x p) ie tpos) op e pos) (uAu k g wi w) := by
  obtain ⟨te, pe, ke⟩ := he.ok
  obtain ⟨ti, pi, ki⟩ := hi.ok
  refine ⟨⟨_, ps_augS (pe_var hN hv hd hcd) pi get_list pe hop set_list ha, fun f τ ρ σ H De D h1 hl hw => ?_⟩⟩
  have rd := h1.rdAll
  unfold uAu at hw
  cases q : Plc ρ k with
  | none => simp only [q] at hw
  | some x =>
    obtain ⟨j, p, ts, d⟩ := x
    simp only [q] at hw
    obtain ⟨a, e, U, v0, g1, _⟩ := h1.plc q
    refine ⟨.ref a, g1, ki _ ρ σ H _ _ rd hw fun t iv H2 h3 sm x1 => ?_⟩
    cases t using T.cs <;> first | exact h3.elim | skip
    rename_i z
    simp only at h3
    cases qz : ixN ts.length z with
    | none => simp only [qz] at h3
    | some y =>
      simp only [qz] at h3
      cases qo : ts[y]? with
      | none => simp only [qo] at h3
      | some o =>
        simp only [qo] at h3
        cases o <;> first | exact h3.elim | skip
        rename_i old
        have s2 := h1.same sm
        obtain ⟨a', e', U', v0', c1, _, _, _, _, vs, c2, c3, c4⟩ := s2.plc q
        rw [g1] at c1
        cases c1
        have iv' := shr_int x1
        subst iv'
        refine ⟨a, vs, z, .int old, rfl, rfl, c2, by unfold atI; rw [c3, qz]; exact c4 y old qo, ke _ ρ σ H2 _ _ s2.rdAll h3 fun t v3 H3 h4 sm3 x3 => ?_⟩
        cases t using T.cs <;> first | exact h4.elim | skip
        rename_i yv
        have s3 := s2.same sm3
        obtain ⟨S, rs, s3⟩ := s3
        have s4 : Sta X.K f (τ ++ [tmp 0 (.int (g old yv)) (.int (g old yv)) []]) ρ σ H3 := ⟨S, rs, s3.pushS (.int _)⟩
        obtain ⟨a', vs', b1, b2, b3, b4, _⟩ := s4.plMut q (.inr rfl)
        rw [g1] at b1
        cases b1
        exact ⟨old, yv, rfl, shr_int x3, a, vs', z, y, rfl, rfl, b2, by rw [b3]; exact qz, hl.nx _ σ _ h4 (b4 y (ixN_lt qz))⟩
def uAp (k : Nat) (v : List Ent → (Nat → T → List Ent → Prop) → Prop) : TEnds → List Ent → Prop := fun De ρ => (Plc ρ k).isSome = true ∧ v ρ fun m t2 ρ1 => match Plc ρ1 k with
  | some (_, _, ts, d) => fit d m t2 ∧ ts.length < 1000000 ∧ De.nx (plSet k ρ1 (ts ++ [t2]))
  | none => False
/-- x.append(e) -/
theorem ts_app (k : Nat) {x : Str} {apos cpos : Pos} (he : TVE X e v) (hN : X.N[k]? = some x := by rfl) (hv : Vis X.env.scope x := by first | exact Or.inl rfl | exact Or.inr (Or.inl rfl) | exact Or.inr (Or.inr rfl)) (hd : (x == ("__debug__" : Str)) = false := by decide)
    (hcd : (x == ("__classdict__" : Str)) = false := by decide) (hsw : swapsWith (.Call (.Attribute (.Name x p) "append" apos) [e] [] cpos) none pos.line X.env = pure false := by rfl)
    (hbase : attributeBase (.Name x p) "append" X.env (eval (.Name x p) X.env) = eval (.Name x p) X.env := by rfl)
    (hfew : ((backTo cpos (starEach [e] X.env)).all (fun x => !x.1) && (backToKw cpos (keywordEach [] X.env)).all (fun x => x.1.isSome)
      && decide ([e].length + ([] : List Keyword).length + (if ([] : List Keyword).isEmpty then 0 else 1) < 30)) = true := by rfl)
    (hline : (apos.endLine == cpos.line) = true := by rfl) (hs : starEach [e] X.env = (false, eval e X.env) :: starEach [] X.env := by rfl) (hplain : (backTo cpos (starEach [] X.env)).any (·.1) = false := by rfl) :
    TS1 X W (.Expr (.Call (.Attribute (.Name x p) "append" apos) [e] [] cpos) pos) (uAp k v) := by
  obtain ⟨te, pe, ke⟩ := he.ok
  refine ⟨⟨_, ps_expr (pe_bm PySem.F.plainAttrs_list PySem.F.slot_list_append PySem.F.type_list_append mt_append (pe_var hN hv hd hcd) (pa_cons pe pa_nil hs) hbase hfew hline hs hplain) hsw, fun f τ ρ σ H De D h1 hl hw => ?_⟩⟩
  obtain ⟨hw1, hw2⟩ := hw
  cases q : Plc ρ k with
  | none => rw [q] at hw1; cases hw1
  | some x =>
    obtain ⟨j, p, ts, d⟩ := x
    obtain ⟨a, e, U, v0, g1, _, _, _, _, vs, g2, _⟩ := h1.plc q
    refine ⟨.ref a, g1, .inl ⟨rfl, vs, SqS.sq (S := fun _ => True) ⟨g2, trivial⟩⟩, ke f τ ρ σ H _ _ h1 hw2 fun m t2 ρ1 v2 F2 H1 h2 s1 => ?_⟩
    cases q2 : Plc ρ1 k with
    | none => simp only [q2] at h2
    | some x =>
      obtain ⟨j, p, ts, d⟩ := x
      simp only [q2] at h2
      obtain ⟨a', vs', b1, b2, b3, _, b5⟩ := s1.plMut q2 h2.1
      rw [g1] at b1
      cases b1
      exact ⟨a, vs', v2, rfl, rfl, b2, by rw [b3]; exact Nat.lt_of_lt_of_le h2.2.1 million, hl.nx _ σ _ h2.2.2 b5⟩
/-- x op= e, ints -/
def uAuN (i : Nat) (g : Int → Int → Int) (v : List Ent → (Nat → T → List Ent → Prop) → Prop) : TEnds → List Ent → Prop := fun De ρ => match ρ[i]?.bind Ent.tr with
  | some (.int x) => v ρ fun _ t ρ1 => match t with
    | .int y => i < ρ1.length ∧ De.nx (setE ρ1 i (.ow 0 (.int (g x y))))
    | _ => False
  | _ => False
theorem ts_augN (i : Nat) {x : Str} {op : Operator} {g : Int → Int → Int} (hop : PIp X op (ipI g)) (hN : X.N.Nodup) (hi : X.N[i]? = some x) (hx : Loc X.env.scope x) (he : TVE X e v) (hf : X.fn x = true ∨ X.env.scope.names.lookup x = some .local := by first | exact .inl rfl | exact .inr rfl | assumption) :
    TS1 X W (.AugAssign (.Name x pos') op e pos) (uAuN i g v) := by
  obtain ⟨te, pe, ke⟩ := he.ok
  refine ⟨⟨_, ps_aug hN hi hx pe hop hf, fun f τ ρ σ H De D h1 hl hw => ?_⟩⟩
  unfold uAuN at hw
  split at hw
  · rename_i xv q
    cases q1 : ρ[i]? with
    | none => rw [q1] at q; cases q
    | some e0 =>
      rw [q1] at q
      obtain ⟨v1, e1, x1⟩ := h1.rdAll i e0 _ q1 q
      have z := shr_int x1
      subst z
      refine ⟨.int xv, e1, ke f τ ρ σ H _ _ h1 hw fun m t2 ρ1 v2 F2 H1 h2 s1 => ?_⟩
      cases t2 <;> first | exact h2.elim | skip
      rename_i y
      obtain ⟨h3, h4⟩ := h2
      have x2 := shr_int s1.last2
      subst x2
      obtain ⟨S, rs, s2⟩ := s1.pop
      exact ⟨xv, y, rfl, rfl, hl.nx _ _ _ h4 ⟨S, _, (s2.pushS (.int _)).setV h3⟩⟩
  · exact hw.elim
/-- row = x[i]: a name for an item of what x owns -/
def uAlias (r k : Nat) (wi : List Ent → (T → Prop) → Prop) : TEnds → List Ent → Prop := fun De ρ => match ρ[k]?.bind Ent.own with
  | some (_ + 2, .nd .lst us) => wi ρ fun ti => match ti with
    | .int z => match ixN us.length z with
      | some q => match us[q]? with
        | some (.nd .lst ts) => k ≠ r ∧ r < ρ.length ∧ De.nx (setE ρ r (.al k q (.lst ts)))
        | _ => False
      | none => False
    | _ => False
  | _ => False
theorem ts_alias (r k : Nat) {y x : Str} {spos : Pos} (hNd : X.N.Nodup) (hr : X.N[r]? = some y) (hy : Loc X.env.scope y) (hi : TPE X ie wi) (hpx : PlainIx ie) (hN : X.N[k]? = some x := by rfl) (hv : Vis X.env.scope x := by first | exact Or.inl rfl | exact Or.inr (Or.inl rfl) | exact Or.inr (Or.inr rfl)) (hd : (x == ("__debug__" : Str)) = false := by decide)
    (hcd : (x == ("__classdict__" : Str)) = false := by decide) (hs : swapsWith (.Subscript (.Name x p) ie spos) (some (.Name y pos')) pos.line X.env = pure false := by rfl) (hf : X.fn y = true ∨ X.env.scope.names.lookup y = some .local := by first | exact .inl rfl | exact .inr rfl | assumption) :
    TS1 X W (.Assign [.Name y pos'] (.Subscript (.Name x p) ie spos) pos) (uAlias r k wi) := by
  obtain ⟨ti, pi, ki⟩ := hi.ok
  refine ⟨⟨_, ps_set hNd hr hy (pe_ix ix_seq (pe_var hN hv hd hcd) pi hpx) hs hf, fun f τ ρ σ H De D h1 hl hw => ?_⟩⟩
  unfold uAlias at hw
  split at hw
  · rename_i n us q
    cases q1 : ρ[k]? with
    | none => rw [q1] at q; cases q
    | some e0 =>
      rw [q1] at q
      have q : e0.own = some (n + 2, .lst us) := q
      have hσ : ∀ {H : Hp}, Sta X.K f τ ρ σ H → ∃ (a : Addr) (S : Addr → Prop) (vs : List V) (F : List Addr), σ[k]? = some (some (.ref a)) ∧ H a = some (.lst vs) ∧ Owns X.K H S (n + 1) us vs F := fun {H} s => by
        obtain ⟨S, rs, s⟩ := s
        obtain ⟨r, g1, g2, g3, g4⟩ := s.get q1
        obtain ⟨v0, e1, own⟩ := (s.good.slot k r g1).1.own (g2 ▸ q)
        cases hF : r.F with
        | nil =>
          rw [hF] at own
          cases own
        | cons a F =>
          rw [hF] at own
          obtain ⟨a', vs', G', rfl, _, z, r'⟩ := own_nlst own
          exact ⟨_, S, _, _, by rw [g3, e1], z, r'⟩
      obtain ⟨a, S, vs, F, g1, g2, g3⟩ := hσ h1
      refine ⟨.ref a, g1, ki _ ρ σ H _ _ h1.rdAll hw fun t iv H2 h3 sm x1 => ?_⟩
      cases t using T.cs <;> first | exact h3.elim | skip
      rename_i z
      simp only at h3
      cases qz : ixN us.length z with
      | none => simp only [qz] at h3
      | some m =>
        simp only [qz] at h3
        cases qo : us[m]? with
        | none => simp only [qo] at h3
        | some o =>
          simp only [qo] at h3
          cases o using T.cs <;> first | exact h3.elim | skip
          rename_i ts
          obtain ⟨hne, hrl, hnx⟩ := h3
          have s2 := h1.same sm
          obtain ⟨a', S', vs', F', c1, c2, c3⟩ := hσ s2
          rw [g1] at c1
          cases c1
          obtain ⟨v1, e1⟩ := c3.get qo
          refine .inl ⟨a, vs', z, v1, rfl, shr_int x1, SqS.sq (S := fun _ => True) ⟨c2, trivial⟩, by unfold atI; rw [← Owns.length c3, qz]; exact e1, ?_⟩
          exact hl.nx _ _ _ hnx (s2.mkAl q1 q g1 (.lst c2 e1 qo .nil) hrl hne)
  · exact hw.elim
end
end TL
set_option Elab.async false
set_option linter.all false
set_option maxRecDepth 100000
namespace TL
open PySem PySem.Spec PyProof.Rows L2
/-! ### a loop over a list that a slot owns, its items named and changed -/
def Ent.isIo : Ent → Bool
  | .io _ _ => true
  | _ => false
def lockE : Ent → Ent
  | .ow n t => .io n t
  | e => e
def openE : Ent → Ent
  | .io n t => .ow n t
  | e => e
def lockS (j : Nat) (ρ : List Ent) : List Ent := match ρ[j]? with
  | some e => ρ.set j (lockE e)
  | none => ρ
def openS (j : Nat) (ρ : List Ent) : List Ent := match ρ[j]? with
  | some e => ρ.set j (openE e)
  | none => ρ
section
variable {K : PySem.W.Frag} {f : Fm} {S S' : Addr → Prop} {H H' : Hp} {τ τ' ms : List Root} {ρ ρ0 : List Ent} {σ σ0 σ' : St}
/-- the kind of an owned slot changed -/
theorem StaW.kind {rs : List Root} {v0' : St} {j : Nat} {e e' : Ent} (s : StaW K f τ ρ σ H S rs) (he : ρ[j]? = some e) (ho : e'.own = e.own) (hn : e.own ≠ none) (hio : ∀ (i : Nat) n t, (ρ.set j e')[i]? = some (.io n t) → σ[i]? = v0'[i]?) :
    ∃ rs', StaW K { f with v0 := v0' } τ (ρ.set j e') σ H S rs' := by
  obtain ⟨r, g1, g2, g3, g4⟩ := s.get he
  have jl : j < rs.length := (List.getElem?_eq_some_iff.mp g4).1
  have al' : ∀ j i t, e' ≠ .al j i t := fun j i t z => by rw [z] at ho; exact hn ho.symm
  have slot' : ∀ {o F}, SlotR K H S e o F → SlotR K H S e' o F := fun {o F} z => by
    cases e <;> first | exact absurd rfl hn | skip
    all_goals (cases e' <;> first | (cases ho; exact z) | cases ho)
  refine ⟨rs.set j ⟨e', r.o, r.F⟩, ?_, ?_, ?_, fun k l i t z => ?_, hio, s.tm⟩
  · rw [List.map_set, s.e]
  · rw [List.map_set, s.o]
    exact set_self g3
  · have G := s.good
    have get : ∀ {m : Nat} {q : Root}, (rs.set j ⟨e', r.o, r.F⟩ ++ τ)[m]? = some q → ∃ q0 : Root, (rs ++ τ)[m]? = some q0 ∧ q.F = q0.F ∧ q.o = q0.o ∧ (q.e = q0.e ∨ (q0.e = e ∧ q.e = e')) := fun {m q} z => by
      rw [← List.set_append_left _ _ jl] at z
      by_cases hm : m = j
      · subst hm
        rw [List.getElem?_set_self (by rw [List.length_append]; omega)] at z
        have z := Option.some.inj z
        subst z
        exact ⟨r, g1, rfl, rfl, .inr ⟨g2, rfl⟩⟩
      · rw [List.getElem?_set_ne (fun y => hm y.symm)] at z
        exact ⟨q, z, rfl, rfl, .inl rfl⟩
    exact {
      slot := fun m q z => by
        obtain ⟨q0, h1, h2, h3, h4⟩ := get z
        obtain ⟨a, b, c⟩ := G.slot m q0 h1
        rw [h2, h3]
        refine ⟨?_, b, c⟩
        rcases h4 with h4 | ⟨h4, h5⟩
        · rw [h4]; exact a
        · rw [h5]; rw [h4] at a; exact slot' a
      dj := fun m l q q' z1 z2 ne a ha hb => by
        obtain ⟨q0, h1, h2, _⟩ := get z1
        obtain ⟨q1, h3, h4, _⟩ := get z2
        rw [h2] at ha
        rw [h4] at hb
        exact G.dj m l q0 q1 h1 h3 ne a ha hb
      trk := G.trk
      fr := G.fr
      src := G.src
      tb := G.tb }
  · by_cases hk : k = j
    · subst hk
      rw [List.getElem?_set_self (List.getElem?_eq_some_iff.mp he).1] at z
      exact absurd (Option.some.inj z) (al' _ _ _)
    · rw [List.getElem?_set_ne (fun y => hk y.symm)] at z
      obtain ⟨r1, n, U, v0, v, Fi, a1, a2, a3, a4, a5, a6, a7⟩ := (s.al k l i t z).ex
      by_cases hl : l = j
      · subst hl
        rw [g4] at a1
        cases a1
        exact ⟨⟨⟨e', r.o, r.F⟩, n, U, v0, v, Fi, List.getElem?_set_self jl, by rw [g2] at a2; exact ho.trans a2, a3, a4, a5, a6, a7⟩⟩
      · exact ⟨⟨r1, n, U, v0, v, Fi, by rw [List.getElem?_set_ne (fun y => hl y.symm)]; exact a1, a2, a3, a4, a5, a6, a7⟩⟩
theorem Sta.lockS {j : Nat} {e : Ent} (s : Sta K f τ ρ σ H) (he : ρ[j]? = some e) (hn : e.own ≠ none) : Sta K { f with v0 := σ } τ (TL.lockS j ρ) σ H := by
  obtain ⟨S, rs, s⟩ := s
  unfold TL.lockS
  rw [he]
  obtain ⟨rs', s'⟩ := s.kind (e' := lockE e) (v0' := σ) he (by cases e <;> rfl) hn (fun _ _ _ _ => rfl)
  exact ⟨S, rs', s'⟩
theorem Sta.openS {j : Nat} {e : Ent} (s : Sta K { f with v0 := σ0 } τ ρ σ H) (s0 : ∀ (i : Nat) n t, ρ0[i]? = some (.io n t) → σ0[i]? = f.v0[i]?) (he : ρ[j]? = some e) (hn : e.own ≠ none) (hio : ∀ i, i ≠ j → (ρ[i]?.map Ent.isIo) = (ρ0[i]?.map Ent.isIo)) :
    Sta K f τ (TL.openS j ρ) σ H := by
  obtain ⟨S, rs, s⟩ := s
  unfold TL.openS
  rw [he]
  have jl := (List.getElem?_eq_some_iff.mp he).1
  obtain ⟨rs', s'⟩ := s.kind (e' := openE e) (v0' := f.v0) he (by cases e <;> rfl) hn (fun i n t z => by
    by_cases hi : i = j
    · subst hi
      rw [List.getElem?_set_self jl] at z
      cases e <;> cases z
    · rw [List.getElem?_set_ne (fun y => hi y.symm)] at z
      have h1 := s.io i n t z
      have h2 := hio i hi
      rw [z] at h2
      cases q : ρ0[i]? with
      | none => rw [q] at h2; cases h2
      | some e0 =>
        rw [q] at h2
        have h2 : true = e0.isIo := Option.some.inj h2
        cases e0 <;> first | cases h2 | skip
        rw [← s0 i _ _ q]
        exact h1)
  exact ⟨S, rs', s'⟩
end
section
variable {X : Cx} {W : WX} {e : Expr} {pos p p2 : Pos} {u : TEnds → List Ent → Prop} {body : List Stmt}
def itemS (k j n i : Nat) (t : T) (ρ : List Ent) (R : List Ent → Prop) : Prop := k ≠ j ∧ k < ρ.length ∧ match t with
  | .nd .lst ts => (match n with
    | m + 2 => R (setE ρ k (.al j i (.lst ts)))
    | _ => R (setE ρ k (.ow 0 (.lst ts))))
  | t => t.flat = true ∧ R (setE ρ k (.ow 0 t))
/-- the loop's own view closed -/
def opn (j : Nat) (ρ0 : List Ent) (R : List Ent → Prop) : List Ent → Prop := fun ρ => (ρ[j]?.map Ent.isIo = some true) ∧ (ρ.map Ent.isIo).set j false = (ρ0.map Ent.isIo).set j false ∧ R (match ρ0[j]? with
  | some (.ow _ _) => openS j ρ
  | _ => ρ)
def uForSl (j k : Nat) (u : TEnds → List Ent → Prop) : TEnds → List Ent → Prop := fun De ρ => ∃ (len : Nat) (I : Nat → List Ent → Prop), I 0 (lockS j ρ) ∧
  (∀ i ρ', i ≤ len → I i ρ' → ∃ n us, ρ'[j]? = some (.io (n + 1) (.lst us)) ∧ us.length = len ∧ ∀ t, us[i]? = some t → itemS k j (n + 1) i t ρ' fun ρ2 => u { nx := I (i + 1), ct := I (i + 1), bk := opn j ρ De.nx, rt := fun _ _ _ => False, xc := fun _ _ => False } ρ2) ∧
  ∀ ρ', I len ρ' → opn j ρ De.nx ρ'
def uForTp (j k : Nat) (u : TEnds → List Ent → Prop) : TEnds → List Ent → Prop := fun De ρ => ∃ (len : Nat) (I : Nat → List Ent → Prop), I 0 (lockS j ρ) ∧
  (∀ i ρ', i ≤ len → I i ρ' → ∃ n us, ρ'[j]? = some (.io (n + 1) (.tup us)) ∧ us.length = len ∧ ∀ t, us[i]? = some t → itemS k j (n + 1) i t ρ' fun ρ2 => u { nx := I (i + 1), ct := I (i + 1), bk := opn j ρ De.nx, rt := fun _ _ _ => False, xc := fun _ _ => False } ρ2) ∧
  ∀ ρ', I len ρ' → opn j ρ De.nx ρ'
theorem isIo_own {e : Ent} (h : e.isIo = true) : e.own ≠ none := by
  cases e with
  | io n t => exact fun z => by cases z
  | ow n t => cases h
  | no => cases h
  | ro _ => cases h
  | al _ _ _ => cases h
theorem opn_ok {K : PySem.W.Frag} {f : Fm} {τ : List Root} {ρ ρ0 : List Ent} {σ σ0 : St} {H H0 : Hp} {j : Nat} {R : List Ent → Prop} (hown : (ρ0[j]?.bind Ent.own).isSome = true) (s0 : Sta K f τ ρ0 σ0 H0) (h : opn j ρ0 R ρ) (s : Sta K { f with v0 := σ0 } τ ρ σ H) : ∃ ρ', R ρ' ∧ Sta K f τ ρ' σ H := by
  obtain ⟨h1, h2, h3⟩ := h
  obtain ⟨S0, rs0, s0⟩ := s0
  cases q : ρ[j]? with
  | none => rw [q] at h1; cases h1
  | some e =>
    rw [q] at h1
    have h1 : e.isIo = true := Option.some.inj h1
    have hn : e.own ≠ none := isIo_own h1
    have hio : ∀ i, i ≠ j → (ρ[i]?.map Ent.isIo) = (ρ0[i]?.map Ent.isIo) := fun i hi => by
      have z := congrArg (fun l => l[i]?) h2
      simp only [List.getElem?_set_ne (fun y => hi y.symm : j ≠ i), List.getElem?_map] at z
      exact z
    cases q0 : ρ0[j]? with
    | none =>
      exfalso
      have z := congrArg List.length h2
      rw [List.length_set, List.length_set, List.length_map, List.length_map] at z
      have := List.getElem?_eq_none_iff.mp q0
      have := (List.getElem?_eq_some_iff.mp q).1
      omega
    | some e0 =>
      rw [q0] at h3
      by_cases h4 : ∃ n t, e0 = .ow n t
      · obtain ⟨n, t, rfl⟩ := h4
        exact ⟨_, h3, s.openS s0.io q hn hio⟩
      · -- the slot was a parameter already
        have h3' : R ρ := by
          cases e0 <;> first | exact absurd ⟨_, _, rfl⟩ h4 | exact h3
        refine ⟨ρ, h3', ?_⟩
        by_cases h5 : ∃ n t, e0 = .io n t
        · obtain ⟨n, t, rfl⟩ := h5
          obtain ⟨S, rs, s⟩ := s
          refine ⟨S, rs, s.e, s.o, ⟨s.good.slot, s.good.dj, s.good.trk, s.good.fr, s.good.src, s.good.tb⟩, s.al, fun i m u z => ?_, s.tm⟩
          have h6 := s.io i m u z
          by_cases hi : i = j
          · subst hi
            rw [h6]
            exact s0.io i n t q0
          · have h2 := hio i hi
            rw [z] at h2
            cases q1 : ρ0[i]? with
            | none => rw [q1] at h2; cases h2
            | some e1 =>
              rw [q1] at h2
              have h2 : true = e1.isIo := Option.some.inj h2
              cases e1 <;> first | cases h2 | skip
              rw [h6]
              exact s0.io i _ _ q1
        · exfalso
          rw [q0] at hown
          have hown : e0.own.isSome = true := hown
          cases e0 with
          | ow n t => exact h4 ⟨_, _, rfl⟩
          | io n t => exact h5 ⟨_, _, rfl⟩
          | no => cases hown
          | ro _ => cases hown
          | al _ _ _ => cases hown
def uForSl' (j k : Nat) (u : TEnds → List Ent → Prop) : TEnds → List Ent → Prop := fun De ρ => (ρ[j]?.bind Ent.own).isSome = true ∧ uForSl j k u De ρ
theorem ts_forSl (j k : Nat) {x y : Str} (hp : PassesOwn (model X.prog X.w) X.A X.env X.xe) (hc : X.calm = true) (hNd : X.N.Nodup) (hk : X.N[k]? = some y) (hy : Loc X.env.scope y) (hb : TSs X W body u) (hN : X.N[j]? = some x := by rfl) (hv : Vis X.env.scope x := by first | exact Or.inl rfl | exact Or.inr (Or.inl rfl) | exact Or.inr (Or.inr rfl)) (hd : (x == ("__debug__" : Str)) = false := by decide)
    (hcd : (x == ("__classdict__" : Str)) = false := by decide) (hf : X.fn y = true ∨ X.env.scope.names.lookup y = some .local := by first | exact .inl rfl | exact .inr rfl | assumption) (hs : ∀ z, foldedSetIterable (.Name x p) X.env z = pure z := by intro _; rfl) : TS1 X W (.For (.Name y p2) (.Name x p) body [] pos) (uForSl' j k u) := by
  obtain ⟨tb, pb, kb⟩ := hb.ok
  refine ⟨⟨_, ps_for hp hc (pi_list (pe_var hN hv hd hcd)) (pg_name hNd hk hy hf) pb hs, fun f τ ρ σ H De D h1 hl hw => ?_⟩⟩
  obtain ⟨hown, len, I, i0, hI, hend⟩ := hw
  have key : ∀ {f : Fm} {ρ : List Ent} {σ : St} {H : Hp} {n : Nat} {us : List T}, Sta X.K f τ ρ σ H → ρ[j]? = some (.io (n + 1) (.lst us)) → σ[j]? = f.v0[j]? ∧ ∃ (a : Addr) (S : Addr → Prop) (rs : List Root) (vs : List V) (F : List Addr), StaW X.K f τ ρ σ H S rs ∧ σ[j]? = some (some (.ref a)) ∧ H a = some (.lst vs) ∧ Owns X.K H S n us vs F := fun {f ρ σ H n us} s he => by
    obtain ⟨S, rs, s⟩ := s
    refine ⟨s.io j _ _ he, ?_⟩
    obtain ⟨r, g1, g2, g3, g4⟩ := s.get he
    obtain ⟨v0, e1, own⟩ := (s.good.slot j r g1).1.own (n := n + 1) (t := .lst us) (by rw [g2]; rfl)
    cases hF : r.F with
    | nil => rw [hF] at own; cases own
    | cons a F =>
      rw [hF] at own
      obtain ⟨a', vs', G', rfl, _, z, r'⟩ := own_nlst own
      exact ⟨_, S, rs, _, _, s, by rw [g3, e1], z, r'⟩
  obtain ⟨e0, he0, ho0⟩ : ∃ e0, ρ[j]? = some e0 ∧ e0.own ≠ none := by
    cases q : ρ[j]? with
    | none => rw [q] at hown; cases hown
    | some e0 => exact ⟨e0, rfl, fun z => by rw [q] at hown; have hown : e0.own.isSome = true := hown; rw [z] at hown; cases hown⟩
  have sl := h1.lockS he0 ho0
  obtain ⟨n0, us0, b1, _, _⟩ := hI 0 _ (Nat.zero_le _) i0
  obtain ⟨_, a, S0, rs0, vs0, F0, _, c1, c2, c3⟩ := key sl b1
  refine ⟨.ref a, c1, a, rfl, ⟨vs0, SqS.sq (S := fun _ => True) ⟨c2, trivial⟩⟩, ?_⟩
  have wk : Walk (Itl X.K a) len (fun H => ∃ xs, xs.length = len ∧ SqL X.K H a xs) (fun i H x H' => H' = H ∧ ∀ xs, SqL X.K H a xs → xs[i]? = some x) :=
    ⟨fun i _ hi h => let ⟨xs, h1, h2⟩ := h; ⟨xs, xs[i]'(by omega), h2, by simp [show i < xs.length by omega]⟩, fun _ h => let ⟨xs, h1, h2⟩ := h; ⟨xs, h2, by omega⟩, fun _ _ _ _ _ _ y => y⟩
  refine for_it wk (fun i σ' H => ∃ ρ', i ≤ len ∧ I i ρ' ∧ Sta X.K { f with v0 := σ } τ ρ' σ' H) ⟨_, Nat.zero_le _, i0, sl⟩ (fun i σ' H' _ h => ?_) (fun i x σ' H' H2 hi h y => ?_) fun σ' H' h => ?_
  · obtain ⟨ρ', hi, im, s⟩ := h
    obtain ⟨n, us, d1, d2, _⟩ := hI i ρ' hi im
    obtain ⟨d3, a', S, rs, vs, F, _, d4, d5, d6⟩ := key s d1
    rw [d3] at d4
    have d4 : σ[j]? = some (some (.ref a')) := d4
    rw [c1] at d4
    cases d4
    exact ⟨vs, by rw [← Owns.length d6, d2], SqS.sq (S := fun _ => True) ⟨d5, trivial⟩⟩
  · obtain ⟨ρ', _, im, s⟩ := h
    obtain ⟨rfl, y⟩ := y
    obtain ⟨n, us, d1, d2, d3⟩ := hI i ρ' (Nat.le_of_lt hi) im
    obtain ⟨d7, a', S, rs, vs, F, sw, d4, d5, d6⟩ := key s d1
    have d8 := d4
    rw [d7] at d8
    have d8 : σ[j]? = some (some (.ref a')) := d8
    rw [c1] at d8
    cases d8
    have hx := y vs (SqS.sq (S := fun _ => True) ⟨d5, trivial⟩)
    have ht : us[i]? = some (us[i]'(by omega)) := List.getElem?_eq_getElem (by omega)
    generalize us[i]'(by omega) = t at ht
    obtain ⟨hkj, hkl, hit⟩ := d3 t ht
    have go : ∀ {ρ2 : List Ent}, Sta X.K { f with v0 := σ } τ ρ2 (σ'.set k (some x)) H2 → u { nx := I (i + 1), ct := I (i + 1), bk := opn j ρ De.nx, rt := fun _ _ _ => False } ρ2 → tb { nx := fun σ' H => ∃ ρ', i + 1 ≤ len ∧ I (i + 1) ρ' ∧ Sta X.K { f with v0 := σ } τ ρ' σ' H, rt := D.rt, bk := D.nx, ct := fun σ' H => ∃ ρ', i + 1 ≤ len ∧ I (i + 1) ρ' ∧ Sta X.K { f with v0 := σ } τ ρ' σ' H } (σ'.set k (some x)) H2 := fun {ρ2} s2 h2 => by
      refine kb { f with v0 := σ } τ ρ2 _ H2 _ _ s2 ⟨?_, ?_, ?_, ?_, ?_⟩ h2
      · exact fun ρ3 σ3 H3 h s => ⟨ρ3, hi, h, s⟩
      · exact fun n t ρ σ v F H h s => h.elim
      · exact fun ρ3 σ3 H3 h s => by
          obtain ⟨ρ4, h4, s4⟩ := opn_ok hown h1 h s
          exact hl.nx ρ4 _ _ h4 s4
      · exact fun ρ3 σ3 H3 h s => ⟨ρ3, hi, h, s⟩
      · exact fun x ρ σ cls d H h s e => h.elim
    -- the item's own record
    obtain ⟨F1, Fi, F2, rfl, oi, _⟩ := d6.split ht hx
    have shared : (n = 0 ∨ t.flat = true) → Sta X.K { f with v0 := σ } τ (setE ρ' k (.ow 0 t)) (σ'.set k (some x)) H2 := fun hz => by
      refine ⟨S, _, (sw.pushS (t := t) (v := x) ?_).setV hkl⟩
      rcases hz with rfl | hz
      · have z := oi.zero
        subst z
        exact oi
      · exact (oi.flat0 hz).2 0 S
    cases t using T.cs with
    | lst ts =>
      cases n with
      | zero => exact go (shared (.inl rfl)) hit
      | succ n =>
        exact go (Sta.mkAl ⟨S, rs, sw⟩ d1 rfl d4 (.lst d5 hx ht .nil) hkl fun z => hkj z.symm) hit
    | _ => exact go (shared (.inr hit.1)) hit.2
  · obtain ⟨ρ', _, im, s⟩ := h
    obtain ⟨ρ4, h4, s4⟩ := opn_ok hown h1 (hend ρ' im) s
    exact hl.nx ρ4 _ _ h4 s4
def uForTp' (j k : Nat) (u : TEnds → List Ent → Prop) : TEnds → List Ent → Prop := fun De ρ => (ρ[j]?.bind Ent.own).isSome = true ∧ uForTp j k u De ρ
theorem ts_forTp (j k : Nat) {x y : Str} (hp : PassesOwn (model X.prog X.w) X.A X.env X.xe) (hc : X.calm = true) (hNd : X.N.Nodup) (hk : X.N[k]? = some y) (hy : Loc X.env.scope y) (hb : TSs X W body u) (hN : X.N[j]? = some x := by rfl) (hv : Vis X.env.scope x := by first | exact Or.inl rfl | exact Or.inr (Or.inl rfl) | exact Or.inr (Or.inr rfl)) (hd : (x == ("__debug__" : Str)) = false := by decide)
    (hcd : (x == ("__classdict__" : Str)) = false := by decide) (hf : X.fn y = true ∨ X.env.scope.names.lookup y = some .local := by first | exact .inl rfl | exact .inr rfl | assumption) (hs : ∀ z, foldedSetIterable (.Name x p) X.env z = pure z := by intro _; rfl) : TS1 X W (.For (.Name y p2) (.Name x p) body [] pos) (uForTp' j k u) := by
  obtain ⟨tb, pb, kb⟩ := hb.ok
  refine ⟨⟨_, ps_for hp hc (pi_tup (pe_var hN hv hd hcd)) (pg_name hNd hk hy hf) pb hs, fun f τ ρ σ H De D h1 hl hw => ?_⟩⟩
  obtain ⟨hown, len, I, i0, hI, hend⟩ := hw
  have key : ∀ {f : Fm} {ρ : List Ent} {σ : St} {H : Hp} {n : Nat} {us : List T}, Sta X.K f τ ρ σ H → ρ[j]? = some (.io (n + 1) (.tup us)) → σ[j]? = f.v0[j]? ∧ ∃ (a : Addr) (S : Addr → Prop) (rs : List Root) (vs : List V) (F : List Addr), StaW X.K f τ ρ σ H S rs ∧ σ[j]? = some (some (.ref a)) ∧ SqT X.K H a vs ∧ Owns X.K H S n us vs F ∧ ∀ i kd ts x, vs[i]? = some x → us[i]? = some (.nd kd ts) → Way H (.tup us) (.ref a) [i] (.nd kd ts) x := fun {f ρ σ H n us} s he => by
    obtain ⟨S, rs, s⟩ := s
    refine ⟨s.io j _ _ he, ?_⟩
    obtain ⟨r, g1, g2, g3, g4⟩ := s.get he
    obtain ⟨v0, e1, own⟩ := (s.good.slot j r g1).1.own (n := n + 1) (t := .tup us) (by rw [g2]; rfl)
    generalize r.F = Fr at own
    cases own with
    | tupf q fl r' => exact ⟨_, S, rs, _, _, s, by rw [g3, e1], SqT.of q, ((Owns.flat0 r' fl).2 _ _), fun i kd ts x h1 h2 => by
        have z := flatAts_iff.mp fl _ (List.mem_of_getElem? h2)
        rw [T.flatAt] at z; cases z⟩
    | tup q r' => exact ⟨_, S, rs, _, _, s, by rw [g3, e1], SqT.of q, r', fun i kd ts x h1 h2 => .tup q h1 h2 .nil⟩
  obtain ⟨e0, he0, ho0⟩ : ∃ e0, ρ[j]? = some e0 ∧ e0.own ≠ none := by
    cases q : ρ[j]? with
    | none => rw [q] at hown; cases hown
    | some e0 => exact ⟨e0, rfl, fun z => by rw [q] at hown; have hown : e0.own.isSome = true := hown; rw [z] at hown; cases hown⟩
  have sl := h1.lockS he0 ho0
  obtain ⟨n0, us0, b1, _, _⟩ := hI 0 _ (Nat.zero_le _) i0
  obtain ⟨_, a, S0, rs0, vs0, F0, _, c1, c2, c3, _⟩ := key sl b1
  refine ⟨.ref a, c1, a, rfl, ⟨vs0, c2⟩, ?_⟩
  have wk : Walk (Itt X.K a) len (fun H => ∃ xs, xs.length = len ∧ SqT X.K H a xs) (fun i H x H' => H' = H ∧ ∀ xs, SqT X.K H a xs → xs[i]? = some x) :=
    ⟨fun i _ hi h => let ⟨xs, h1, h2⟩ := h; ⟨xs, xs[i]'(by omega), h2, by simp [show i < xs.length by omega]⟩, fun _ h => let ⟨xs, h1, h2⟩ := h; ⟨xs, h2, by omega⟩, fun _ _ _ _ _ _ y => y⟩
  refine for_it wk (fun i σ' H => ∃ ρ', i ≤ len ∧ I i ρ' ∧ Sta X.K { f with v0 := σ } τ ρ' σ' H) ⟨_, Nat.zero_le _, i0, sl⟩ (fun i σ' H' _ h => ?_) (fun i x σ' H' H2 hi h y => ?_) fun σ' H' h => ?_
  · obtain ⟨ρ', hi, im, s⟩ := h
    obtain ⟨n, us, d1, d2, _⟩ := hI i ρ' hi im
    obtain ⟨d3, a', S, rs, vs, F, _, d4, d5, d6, dw⟩ := key s d1
    rw [d3] at d4
    have d4 : σ[j]? = some (some (.ref a')) := d4
    rw [c1] at d4
    cases d4
    exact ⟨vs, by rw [← Owns.length d6, d2], d5⟩
  · obtain ⟨ρ', _, im, s⟩ := h
    obtain ⟨rfl, y⟩ := y
    obtain ⟨n, us, d1, d2, d3⟩ := hI i ρ' (Nat.le_of_lt hi) im
    obtain ⟨d7, a', S, rs, vs, F, sw, d4, d5, d6, dw⟩ := key s d1
    have d8 := d4
    rw [d7] at d8
    have d8 : σ[j]? = some (some (.ref a')) := d8
    rw [c1] at d8
    cases d8
    have hx := y vs (d5)
    have ht : us[i]? = some (us[i]'(by omega)) := List.getElem?_eq_getElem (by omega)
    generalize us[i]'(by omega) = t at ht
    obtain ⟨hkj, hkl, hit⟩ := d3 t ht
    have go : ∀ {ρ2 : List Ent}, Sta X.K { f with v0 := σ } τ ρ2 (σ'.set k (some x)) H2 → u { nx := I (i + 1), ct := I (i + 1), bk := opn j ρ De.nx, rt := fun _ _ _ => False } ρ2 → tb { nx := fun σ' H => ∃ ρ', i + 1 ≤ len ∧ I (i + 1) ρ' ∧ Sta X.K { f with v0 := σ } τ ρ' σ' H, rt := D.rt, bk := D.nx, ct := fun σ' H => ∃ ρ', i + 1 ≤ len ∧ I (i + 1) ρ' ∧ Sta X.K { f with v0 := σ } τ ρ' σ' H } (σ'.set k (some x)) H2 := fun {ρ2} s2 h2 => by
      refine kb { f with v0 := σ } τ ρ2 _ H2 _ _ s2 ⟨?_, ?_, ?_, ?_, ?_⟩ h2
      · exact fun ρ3 σ3 H3 h s => ⟨ρ3, hi, h, s⟩
      · exact fun n t ρ σ v F H h s => h.elim
      · exact fun ρ3 σ3 H3 h s => by
          obtain ⟨ρ4, h4, s4⟩ := opn_ok hown h1 h s
          exact hl.nx ρ4 _ _ h4 s4
      · exact fun ρ3 σ3 H3 h s => ⟨ρ3, hi, h, s⟩
      · exact fun x ρ σ cls d H h s e => h.elim
    -- the item's own record
    obtain ⟨F1, Fi, F2, rfl, oi, _⟩ := d6.split ht hx
    have shared : (n = 0 ∨ t.flat = true) → Sta X.K { f with v0 := σ } τ (setE ρ' k (.ow 0 t)) (σ'.set k (some x)) H2 := fun hz => by
      refine ⟨S, _, (sw.pushS (t := t) (v := x) ?_).setV hkl⟩
      rcases hz with rfl | hz
      · have z := oi.zero
        subst z
        exact oi
      · exact (oi.flat0 hz).2 0 S
    cases t using T.cs with
    | lst ts =>
      cases n with
      | zero => exact go (shared (.inl rfl)) hit
      | succ n =>
        exact go (Sta.mkAl ⟨S, rs, sw⟩ d1 rfl d4 (dw _ _ _ _ hx ht) hkl fun z => hkj z.symm) hit
    | _ => exact go (shared (.inr hit.1)) hit.2
  · obtain ⟨ρ', _, im, s⟩ := h
    obtain ⟨ρ4, h4, s4⟩ := opn_ok hown h1 (hend ρ' im) s
    exact hl.nx ρ4 _ _ h4 s4
/-- x.append(y), y now a name for x's last -/
def uApMv (k i : Nat) : TEnds → List Ent → Prop := fun De ρ => match ρ[k]?, ρ[i]? with
  | some (.ow (d + 2) (.nd .lst ts)), some (.ow (m + 1) (.nd .lst us)) => d ≤ m ∧ k ≠ i ∧ ts.length < 1000000 ∧ De.nx (setE (plSet k (setE ρ i .no) (ts ++ [.lst us])) i (.al k ts.length (.lst us)))
  | some (.io (d + 2) (.nd .lst ts)), some (.ow (m + 1) (.nd .lst us)) => d ≤ m ∧ k ≠ i ∧ ts.length < 1000000 ∧ De.nx (setE (plSet k (setE ρ i .no) (ts ++ [.lst us])) i (.al k ts.length (.lst us)))
  | _, _ => False
theorem setE_get_other {ρ : List Ent} {i k : Nat} {e e' : Ent} (h : ρ[k]? = some e) (hn : e.own ≠ none) (hne : k ≠ i) : (setE ρ i e')[k]? = some e := by
  unfold setE
  rw [List.getElem?_set_ne (fun z => hne z.symm)]
  unfold killA
  rw [List.getElem?_map, h]
  show some (noAl i e) = some e
  rcases noAl_cases i e with z | ⟨_, _, z, _⟩
  · rw [z]
  · rw [z] at hn; exact absurd rfl hn
theorem Sta.appMv {K : PySem.W.Frag} {f : Fm} {τ : List Root} {ρ : List Ent} {σ : St} {H : Hp} {k i : Nat} {e : Ent} {d m : Nat} {ts us : List T} (h1 : Sta K f τ ρ σ H) (he : ρ[k]? = some e) (ho : e.own = some (d + 2, .lst ts)) (hei : ρ[i]? = some (.ow (m + 1) (.lst us))) (hdm : d ≤ m) (hne : k ≠ i) :
    ∃ (a : Addr) (v : V) (vs : List V), σ[k]? = some (some (.ref a)) ∧ σ[i]? = some (some v) ∧ H a = some (.lst vs) ∧ vs.length = ts.length ∧ Sta K f τ (setE (plSet k (setE ρ i .no) (ts ++ [.lst us])) i (.al k ts.length (.lst us))) σ (upd H a (.lst (vs ++ [v]))) := by
  obtain ⟨S, rs, s⟩ := h1
  obtain ⟨v, F, rs', g1, s1⟩ := s.moveV hei
  have s1' : Sta K f (τ ++ [tmp (m + 1) (.lst us) v F]) (setE ρ i .no) σ H := ⟨S, rs', s1⟩
  have hk1 : (setE ρ i .no)[k]? = some e := setE_get_other he (by rw [ho]; exact fun z => by cases z) hne
  have hpl : Plc (setE ρ i .no) k = some (k, [], ts, d + 1) := by
    unfold Plc
    rw [hk1]
    cases e with
    | ow n t => cases ho; rfl
    | io n t => cases ho; rfl
    | no => cases ho
    | ro _ => cases ho
    | al _ _ _ => cases ho
  obtain ⟨a, vs, b1, b2, b3, _, b5⟩ := s1'.plMut hpl (.inl (by omega))
  refine ⟨a, v, vs, b1, g1, b2, b3, ?_⟩
  have hps : plSet k (setE ρ i .no) (ts ++ [.lst us]) = (TL.killJ [k] (setE ρ i .no)).set k (e.put (.lst (ts ++ [.lst us]))) := by
    rw [plSet_var (fun j i t y => by rw [hk1] at y; cases y; cases ho), putAt_eq hk1 ho]
    rfl
  have kl : k < (setE ρ i .no).length := (List.getElem?_eq_some_iff.mp hk1).1
  have il : i < ρ.length := (List.getElem?_eq_some_iff.mp hei).1
  have w : Way (upd H a (.lst (vs ++ [v]))) (.lst (ts ++ [.lst us])) (.ref a) [ts.length] (.lst us) v :=
    .lst upd_same (by rw [← b3]; exact getElem?_last) getElem?_last .nil
  have z := b5.mkAl (j := k) (i := ts.length) (k := i) (n := d) (ts := us) (by rw [hps, List.getElem?_set_self (by rw [killJ_len]; exact kl)]) (put_own ho _) b1 w (by rw [hps, List.length_set, killJ_len, setE_len]; exact il) hne
  rw [set_self g1] at z
  exact z
theorem ts_appMv (k i : Nat) {x y : Str} {apos cpos : Pos} (hN : X.N[k]? = some x := by rfl) (hv : Vis X.env.scope x := by first | exact Or.inl rfl | exact Or.inr (Or.inl rfl) | exact Or.inr (Or.inr rfl)) (hd : (x == ("__debug__" : Str)) = false := by decide)
    (hcd : (x == ("__classdict__" : Str)) = false := by decide) (hN2 : X.N[i]? = some y := by rfl) (hv2 : Vis X.env.scope y := by first | exact Or.inl rfl | exact Or.inr (Or.inl rfl) | exact Or.inr (Or.inr rfl)) (hd2 : (y == ("__debug__" : Str)) = false := by decide)
    (hcd2 : (y == ("__classdict__" : Str)) = false := by decide) (hsw : swapsWith (.Call (.Attribute (.Name x p) "append" apos) [.Name y p2] [] cpos) none pos.line X.env = pure false := by rfl)
    (hbase : attributeBase (.Name x p) "append" X.env (eval (.Name x p) X.env) = eval (.Name x p) X.env := by rfl)
    (hfew : ((backTo cpos (starEach [.Name y p2] X.env)).all (fun x => !x.1) && (backToKw cpos (keywordEach [] X.env)).all (fun x => x.1.isSome)
      && decide ([Expr.Name y p2].length + ([] : List Keyword).length + (if ([] : List Keyword).isEmpty then 0 else 1) < 30)) = true := by rfl)
    (hline : (apos.endLine == cpos.line) = true := by rfl) (hs : starEach [.Name y p2] X.env = (false, eval (.Name y p2) X.env) :: starEach [] X.env := by rfl) (hplain : (backTo cpos (starEach [] X.env)).any (·.1) = false := by rfl) :
    TS1 X W (.Expr (.Call (.Attribute (.Name x p) "append" apos) [.Name y p2] [] cpos) pos) (uApMv k i) := by
  refine ⟨⟨_, ps_expr (pe_bm PySem.F.plainAttrs_list PySem.F.slot_list_append PySem.F.type_list_append mt_append (pe_var hN hv hd hcd) (pa_cons (pe_var hN2 hv2 hd2 hcd2) pa_nil hs) hbase hfew hline hs hplain) hsw, fun f τ ρ σ H De D h1 hl hw => ?_⟩⟩
  unfold uApMv at hw
  split at hw
  · rename_i d ts m us q1 q2
    obtain ⟨w1, w2, w3, w4⟩ := hw
    obtain ⟨a, v, vs, b1, b2, b3, b4, b5⟩ := h1.appMv q1 rfl q2 w1 w2
    exact ⟨.ref a, b1, .inl ⟨rfl, vs, SqS.sq (S := fun _ => True) ⟨b3, trivial⟩⟩, v, b2, a, vs, v, rfl, rfl, b3, by rw [b4]; exact Nat.lt_of_lt_of_le w3 million, hl.nx _ σ _ w4 b5⟩
  · rename_i d ts m us q1 q2
    obtain ⟨w1, w2, w3, w4⟩ := hw
    obtain ⟨a, v, vs, b1, b2, b3, b4, b5⟩ := h1.appMv q1 rfl q2 w1 w2
    exact ⟨.ref a, b1, .inl ⟨rfl, vs, SqS.sq (S := fun _ => True) ⟨b3, trivial⟩⟩, v, b2, a, vs, v, rfl, rfl, b3, by rw [b4]; exact Nat.lt_of_lt_of_le w3 million, hl.nx _ σ _ w4 b5⟩
  · exact hw.elim
end
end TL
set_option Elab.async false
set_option linter.all false
set_option maxRecDepth 100000
namespace TL
open PySem PySem.Spec PyProof.Rows L2
structure GF (K : PySem.W.Frag) (mg : Str → Option Value) (x : Str) (st : Stmt) (ps : List Str) where
  f : Addr
  d : FuncData
  F : Fun K x x st f d
  b : Binds K d ps []
  g : mg x = some (.ref f)
theorem eqU {k : Nat} {A : Around} (hr : Room k A) : A.units + 64 < cLine := by have := hr.un; omega
section
variable {K : PySem.W.Frag}
/-- texts, numbers, bools told apart -/
theorem opT_neS : OpT K rNe (fun t u R => match t, u with | .str a, .str b => R (.bl (!decide (a = b))) | .int a, .int b => R (.bl (!decide (a = b))) | .bl a, .bl b => R (.bl (!decide (a = b))) | _, _ => False) := by
  intro S H x y t u Q R h1 h2 hg hq
  cases t using T.cs <;> cases u using T.cs <;> first | exact hg.elim | skip
  · rw [(shr_bl h1), (shr_bl h2)]
    refine ⟨rfl, hq _ _ _ hg (Same.refl H) ?_⟩
    have e : ∀ a b : Bool, decide (V.bl a = V.bl b) = decide (a = b) := by decide
    rw [e]; exact .bl _
  · rename_i a b
    rw [(shr_int h1), (shr_int h2)]
    refine ⟨rfl, hq _ _ _ hg (Same.refl H) ?_⟩
    have e : decide (V.int a = V.int b) = decide (a = b) := by
      by_cases z : a = b
      · subst z; simp
      · rw [decide_eq_false z, decide_eq_false (fun y => z (V.int.inj y))]
    rw [e]; exact .bl _
  · rename_i a b
    rw [(shr_str h1), (shr_str h2)]
    refine ⟨rfl, hq _ _ _ hg (Same.refl H) ?_⟩
    have e : decide (V.str a = V.str b) = decide (a = b) := by
      by_cases z : a = b
      · subst z; simp
      · rw [decide_eq_false z, decide_eq_false (fun y => z (V.str.inj y))]
    rw [e]; exact .bl _
theorem shr_v1 {S : Addr → Prop} {H : Hp} {t : T} {v : V} (h : Shr K H S t v) (hf : t.is1 = true) : v = t.v1 := by
  cases t using T.cs <;> first | exact absurd (show false = true from hf) Bool.false_ne_true | skip
  · exact shr_non h
  · exact shr_bl h
  · exact shr_int h
  · exact shr_str h
theorem shrs_v1 {S : Addr → Prop} {H : Hp} : ∀ {ts : List T} {vs : List V}, Shrs K H S ts vs → ts.all T.is1 = true → vs = ts.map T.v1
  | [], vs, h, _ => by cases h; rfl
  | t :: ts, vs, h, hf => by
    obtain ⟨v, r, rfl, a, b⟩ := h.uncons
    rw [List.all_cons, Bool.and_eq_true] at hf
    rw [shr_v1 a hf.1, shrs_v1 b hf.2]; rfl
theorem flat_v1 {t : T} (hf : t.is1 = true) : flatV t.v1 = true := by cases t using T.cs <;> first | rfl | exact absurd (show false = true from hf) Bool.false_ne_true
def gIn (neg : Bool) : F2 := fun t u R => match u with
  | .tup us => t.is1 = true ∧ us.all T.is1 = true ∧ R (.bl (if neg then !inV t.v1 (us.map T.v1) else inV t.v1 (us.map T.v1)))
  | .ctp us => t.is1 = true ∧ us.all T.is1 = true ∧ R (.bl (if neg then !inV t.v1 (us.map T.v1) else inV t.v1 (us.map T.v1)))
  | .nd .lst us => t.is1 = true ∧ us.all T.is1 = true ∧ R (.bl (if neg then !inV t.v1 (us.map T.v1) else inV t.v1 (us.map T.v1)))
  | _ => False
theorem opT_inB (neg : Bool) : OpT K (rIn K neg) (gIn neg) := by
  intro S H x y t u Q R h1 h2 hg hq
  have fl : ∀ us : List T, us.all T.is1 = true → (us.map T.v1).all flatV = true := fun us h => by
    rw [List.all_map]
    refine List.all_eq_true.mpr fun z hz => flat_v1 (List.all_eq_true.mp h z hz)
  cases u using T.cs <;> first | exact hg.elim | skip
  · obtain ⟨p, vs, rfl, q, r⟩ := shr_tup h2
    obtain ⟨g1, g2, g3⟩ := hg
    rw [shr_v1 h1 g1]
    rw [shrs_v1 r g2] at q
    exact ⟨p, _, rfl, .inr q, flat_v1 g1, fl _ g2, hq _ _ _ g3 (Same.refl H) (.bl _)⟩
  · obtain ⟨p, vs, rfl, q, r⟩ := shr_lst h2
    obtain ⟨g1, g2, g3⟩ := hg
    rw [shr_v1 h1 g1]
    rw [shrs_v1 r g2] at q
    exact ⟨p, _, rfl, .inl q.sq, flat_v1 g1, fl _ g2, hq _ _ _ g3 (Same.refl H) (.bl _)⟩
  · obtain ⟨p, vs, rfl, q, r⟩ := shr_ctp h2
    obtain ⟨g1, g2, g3⟩ := hg
    rw [shr_v1 h1 g1]
    rw [shrs_v1 r g2] at q
    exact ⟨p, _, rfl, .inr q, flat_v1 g1, fl _ g2, hq _ _ _ g3 (Same.refl H) (.bl _)⟩
theorem opT_in : OpT K (rIn K false) (gIn false) := opT_inB false
theorem opT_notIn : OpT K (rIn K true) (gIn true) := opT_inB true
theorem shrs_rev {S : Addr → Prop} {H : Hp} : ∀ {ts : List T} {vs : List V}, Shrs K H S ts vs → Shrs K H S ts.reverse vs.reverse
  | [], vs, h => by cases h; exact .nil
  | t :: ts, vs, h => by
    obtain ⟨v, r, rfl, a, b⟩ := h.uncons
    rw [List.reverse_cons, List.reverse_cons]
    exact (shrs_rev b).append (Shrs.cons a .nil)
/-- a constant tuple among the globals -/
theorem kTup {a : Addr} {ts : List T} {o : Obj} {its : Array Value} {n : Nat} (hl : K.lookup a = some o) (hc : o.cls = .type "tuple") (hd : o.data = .seq its n) (hz : its.size ≤ sizeLine) (hv : Vals (ts.map T.v1) its.toList) (hf : ts.all T.is1 = true) (H : Hp) (S : Addr → Prop) : Shr K H S (.ctp ts) (.ref a) := by
  refine .ctp (vs := ts.map T.v1) (.inr ⟨o, its, n, hl, hc, hd, hz, hv⟩) (flatAts_iff.mpr fun t h => by
    have z := List.all_eq_true.mp hf t h
    cases t using T.cs <;> first | rfl | exact absurd (show false = true from z) Bool.false_ne_true) ?_
  clear hv
  induction ts with
  | nil => exact .nil
  | cons t ts ih =>
    rw [List.all_cons, Bool.and_eq_true] at hf
    refine Shrs.cons ?_ (ih hf.2)
    cases t using T.cs <;> first | exact absurd (show false = true from hf.1) Bool.false_ne_true | skip
    · exact .non
    · exact .bl _
    · exact .int _
    · exact .str _
end
section
variable {X : Cx} {W : WX} {e a b ie : Expr} {pos p p1 p2 p3 tpos : Pos} {w wa wi : List Ent → (T → Prop) → Prop} {v vi : List Ent → (Nat → T → List Ent → Prop) → Prop}
def wRev (w : List Ent → (T → Prop) → Prop) : List Ent → (T → Prop) → Prop := fun ρ R => w ρ fun t => match t with | .nd .lst ts => R (.lst ts.reverse) | _ => False
theorem tp_rev {k : Nat} (ha : TPE X e w) : TPE X (.Subscript e (.Slice none none (some (.UnaryOp .USub (.Constant (.int 1) k p1) p2)) p3) pos) (wRev w) := by
  obtain ⟨ta, pa, ka⟩ := ha.ok
  refine ⟨⟨_, pe_revL pa, fun S ρ σ H Q R hr hw hq => ?_⟩⟩
  refine ka S ρ σ H _ _ hr hw fun t v H1 h1 s1 x1 => ?_
  cases t using T.cs <;> first | exact h1.elim | skip
  obtain ⟨p0, vs, rfl, q, r⟩ := shr_lst x1
  have hs : ∀ {p : Addr} {o : HO} (hp : H1 p = none) (no : NTbl o := by first | exact nt_lst | exact nt_tup | exact nt_dK | exact nt_dT), Same H1 (upd H1 p o) := fun hp no => Same.new hp no
  refine ⟨p0, vs, rfl, q.sq, fun p hp => hq _ _ _ h1 (s1.trans (hs hp)) ?_⟩
  exact .sls ⟨upd_same, .inr (s1.free hp)⟩ (Owns.keep (fun _ z => z) (shrs_rev r) (.same (hs hp)))
theorem tp_globT {x : Str} {ts : List T} {c : Addr} (hg : Gl X x) (hm : X.mg x = some (.ref c)) (hs : ∀ H S, Shr X.K H S (.tup ts) (.ref c)) (hd : (x == ("__debug__" : Str)) = false := by decide) : TPE X (.Name x pos) (wC (.tup ts)) :=
  tp_c (v := .ref c) (pe_glob hg hm rfl hd) fun S H => hs H S
def uStV (k : Nat) (v : List Ent → (Nat → T → List Ent → Prop) → Prop) (vi : List Ent → (Nat → T → List Ent → Prop) → Prop) : TEnds → List Ent → Prop := fun De ρ => v ρ fun m t2 ρ1 => (Plc ρ1 k).isSome = true ∧ vi ρ1 fun _ ti ρ2 => match Plc ρ2 k with
  | some (_, _, ts, d) => match ti with
    | .int z => match ixN ts.length z with
      | some q => fit d m t2 ∧ De.nx (plSet k ρ2 (ts.set q t2))
      | none => False
    | _ => False
  | none => False
/-- x[i] = e, the index may change things -/
theorem ts_storeV (k : Nat) {x : Str} (he : TVE X e v) (hi : TVE X ie vi) (hN : X.N[k]? = some x := by rfl) (hv : Vis X.env.scope x := by first | exact Or.inl rfl | exact Or.inr (Or.inl rfl) | exact Or.inr (Or.inr rfl)) (hd : (x == ("__debug__" : Str)) = false := by decide)
    (hcd : (x == ("__classdict__" : Str)) = false := by decide) (hs : swapsWithSole [.Subscript (.Name x p) ie tpos] e pos.line X.env = pure false := by rfl) (hw : swappedStores [.Subscript (.Name x p) ie tpos] e X.env = pure none := by rfl)
    (h1 : (assignEach [.Subscript (.Name x p) ie tpos] X.env).map (·.2) = [assign (.Subscript (.Name x p) ie tpos) X.env] := by rfl)
    (ha : ∀ v, assign (.Subscript (.Name x p) ie tpos) X.env v = (do
      let ov ← holding [v] (eval (.Name x p) X.env)
      let iv ← holding [v, ov] (eval ie X.env)
      standAt tpos
      holding [v, ov, iv] (setItem ov iv v)
      release [v, ov, iv] []) := by intro _; rfl) : TS1 X W (.Assign [.Subscript (.Name x p) ie tpos] e pos) (uStV k v vi) := by
  obtain ⟨te, pe, ke⟩ := he.ok
  obtain ⟨ti, pi, ki⟩ := hi.ok
  refine ⟨⟨_, ps_asg pe (pg_sub (pe_var hN hv hd hcd) pi set_list ha) hs hw h1, fun f τ ρ σ H De D h1 hl hw => ?_⟩⟩
  refine ke f τ ρ σ H _ _ h1 hw fun m t2 ρ1 v2 F2 H1 h2 s1 => ?_
  obtain ⟨h2, h3⟩ := h2
  cases q : Plc ρ1 k with
  | none => rw [q] at h2; cases h2
  | some x =>
    obtain ⟨j, p, ts, d⟩ := x
    obtain ⟨a, e, U, v0, g1, _⟩ := s1.plc q
    refine ⟨.ref a, g1, ki f _ ρ1 σ H1 _ _ s1 h3 fun n3 t ρ2 iv F3 H2 h3 s2 => ?_⟩
    cases q2 : Plc ρ2 k with
    | none => simp only [q2] at h3
    | some y =>
      obtain ⟨j2, p2, ts2, d2⟩ := y
      simp only [q2] at h3
      cases t using T.cs <;> first | exact h3.elim | skip
      rename_i z
      simp only at h3
      have x1 := shr_int s2.last2
      subst x1
      cases qz : ixN ts2.length z with
      | none => simp only [qz] at h3
      | some y =>
        simp only [qz] at h3
        obtain ⟨a', vs, b1, b2, b3, b4, _⟩ := s2.pop.plMut q2 h3.1
        rw [g1] at b1
        cases b1
        exact ⟨a, vs, z, y, rfl, rfl, b2, by rw [b3]; exact qz, hl.nx _ σ _ h3.2 (b4 y (ixN_lt qz))⟩
end
end TL
set_option Elab.async false
set_option linter.all false
set_option maxRecDepth 100000
namespace TL
open PySem PySem.Spec PyProof.Rows L2
/-! ### trees of numbers -/
abbrev Li (xs : List Int) : T := .lst (xs.map T.int)
abbrev Lm (xss : List (List Int)) : T := .lst (xss.map fun xs => Li xs)
theorem mapint_get {xs : List Int} {i : Nat} {t : T} : (xs.map T.int)[i]? = some t ↔ ∃ x, xs[i]? = some x ∧ t = .int x := by
  rw [List.getElem?_map]; cases xs[i]? <;> simp [eq_comm]
theorem mapLi_get {xs : List (List Int)} {i : Nat} {t : T} : (xs.map fun xs => Li xs)[i]? = some t ↔ ∃ x, xs[i]? = some x ∧ t = Li x := by
  rw [List.getElem?_map]; cases xs[i]? <;> simp [eq_comm]
theorem flats_ints : ∀ xs : List Int, T.flats (xs.map T.int) = true
  | [] => rfl
  | x :: xs => by
    show T.flatAts (T.int x :: xs.map T.int) 0 = true
    rw [T.flatAts]
    rw [show T.flatAts (xs.map T.int) 0 = true from flats_ints xs]; rfl
theorem flatAt_Li {xs : List Int} {n : Nat} : (Li xs).flatAt (n + 1) = true := by
  rw [T.flatAt]
  refine flatAts_iff.mpr fun t ht => ?_
  obtain ⟨x, _, rfl⟩ := List.mem_map.mp ht
  cases n <;> rfl
theorem flatAt_Lm {xs : List (List Int)} : (Lm xs).flatAt 2 = true := by
  rw [T.flatAt]
  refine flatAts_iff.mpr fun t ht => ?_
  obtain ⟨x, _, rfl⟩ := List.mem_map.mp ht
  exact flatAt_Li
-- fit for ==, at most so deep
mutual
def T.okd : T → Nat → Bool
  | .non, _ => true
  | .bl _, _ => true
  | .int _, _ => true
  | .str s, _ => PyData.strOk s
  | .tup ts, n + 1 => T.okds ts n
  | .nd .lst ts, n + 1 => T.okds ts n
  | _, _ => false
def T.okds : List T → Nat → Bool
  | [], _ => true
  | t :: ts, n => T.okd t n && T.okds ts n
end
mutual
theorem okd_data : ∀ (t : T) (n : Nat), t.okd n = true → t.data = true ∧ t.pd.canLay0 = true ∧ t.pd.depth ≤ n
  | .non, _, _ => ⟨rfl, rfl, Nat.zero_le _⟩
  | .bl _, _, _ => ⟨rfl, rfl, Nat.zero_le _⟩
  | .int _, _, _ => ⟨rfl, rfl, Nat.zero_le _⟩
  | .str s, _, h => ⟨rfl, h, Nat.zero_le _⟩
  | .tup ts, 0, h => by cases h
  | .tup ts, n + 1, h => by
    obtain ⟨a, b, c⟩ := okds_data ts n h
    refine ⟨by rw [T.data]; exact a, by rw [T.pd, PyData.canLay0]; exact b, by rw [T.pd, PyData.depth]; omega⟩
  | .nd .lst ts, 0, h => by cases h
  | .nd .lst ts, n + 1, h => by
    obtain ⟨a, b, c⟩ := okds_data ts n h
    refine ⟨by rw [T.data]; exact a, by rw [T.pd, PyData.canLay0]; exact b, by rw [T.pd, PyData.depth]; omega⟩
  | .opq _ _, 0, h => by cases h
  | .opq _ _, _ + 1, h => by cases h
  | .exc _ _ _ _, 0, h => by cases h
  | .exc _ _ _ _, _ + 1, h => by cases h
  | .scr _, 0, h => by cases h
  | .scr _, _ + 1, h => by cases h
theorem okds_data : ∀ (ts : List T) (n : Nat), T.okds ts n = true → T.datas ts = true ∧ PyData.canLayAll0 (T.pds ts) = true ∧ PyData.depthAll (T.pds ts) ≤ n
  | [], _, _ => ⟨rfl, rfl, Nat.zero_le _⟩
  | t :: ts, n, h => by
    rw [T.okds, Bool.and_eq_true] at h
    obtain ⟨a, b, c⟩ := okd_data t n h.1
    obtain ⟨a2, b2, c2⟩ := okds_data ts n h.2
    refine ⟨by rw [T.datas, a, a2]; rfl, by rw [T.pds, PyData.canLayAll0, b, b2]; rfl, by rw [T.pds, PyData.depthAll]; exact Nat.max_le.mpr ⟨c, c2⟩⟩
end
theorem okd_eqok {t : T} {n : Nat} (h : t.okd n = true) (hn : n ≤ 64) : t.eqok = true := by
  obtain ⟨a, b, c⟩ := okd_data t n h
  unfold T.eqok SeqAt.shaped
  rw [a, b, decide_eq_true (by omega)]; rfl
theorem okd_refl {t : T} {n : Nat} (h : t.okd n = true) : t.eqv t = true := by
  obtain ⟨a, b, c⟩ := okd_data t n h
  exact SeqAt.eqv_refl _ b
theorem okds_iff : ∀ {ts : List T} {n : Nat}, T.okds ts n = true ↔ ∀ t ∈ ts, t.okd n = true
  | [], n => by simp [T.okds]
  | t :: ts, n => by rw [T.okds, Bool.and_eq_true, okds_iff]; simp
theorem okd_Li {xs : List Int} {n : Nat} : (Li xs).okd (n + 1) = true := by
  rw [T.okd]
  refine okds_iff.mpr fun t ht => ?_
  obtain ⟨x, _, rfl⟩ := List.mem_map.mp ht
  rfl
theorem okd_Lm {xs : List (List Int)} {n : Nat} : (Lm xs).okd (n + 2) = true := by
  rw [T.okd]
  refine okds_iff.mpr fun t ht => ?_
  obtain ⟨x, _, rfl⟩ := List.mem_map.mp ht
  exact okd_Li
theorem eqvAll_ints : ∀ xs ys : List Int, PyData.eqvAll (T.pds (xs.map T.int)) (T.pds (ys.map T.int)) = decide (xs = ys)
  | [], [] => by simp [T.pds, PyData.eqvAll]
  | [], _ :: _ => by simp [T.pds, PyData.eqvAll]
  | _ :: _, [] => by simp [T.pds, PyData.eqvAll]
  | x :: xs, y :: ys => by
    rw [List.map_cons, List.map_cons, T.pds, T.pds, PyData.eqvAll, eqvAll_ints xs ys]
    rw [T.pd, T.pd, PyData.eqv]
    by_cases h : x = y <;> by_cases h2 : xs = ys <;> simp [h, h2]
theorem eqv_Li (xs ys : List Int) : (Li xs).eqv (Li ys) = decide (xs = ys) := by
  show PyData.eqv (T.pd (Li xs)) (T.pd (Li ys)) = _
  rw [T.pd, T.pd, PyData.eqv]
  exact eqvAll_ints xs ys
theorem eqvAll_Li : ∀ xs ys : List (List Int), PyData.eqvAll (T.pds (xs.map fun x => Li x)) (T.pds (ys.map fun x => Li x)) = decide (xs = ys)
  | [], [] => by simp [T.pds, PyData.eqvAll]
  | [], _ :: _ => by simp [T.pds, PyData.eqvAll]
  | _ :: _, [] => by simp [T.pds, PyData.eqvAll]
  | x :: xs, y :: ys => by
    rw [List.map_cons, List.map_cons, T.pds, T.pds, PyData.eqvAll, eqvAll_Li xs ys]
    rw [show PyData.eqv (T.pd (Li x)) (T.pd (Li y)) = decide (x = y) from eqv_Li x y]
    by_cases h : x = y <;> by_cases h2 : xs = ys <;> simp [h, h2]
theorem eqv_Lm (xs ys : List (List Int)) : (Lm xs).eqv (Lm ys) = decide (xs = ys) := by
  show PyData.eqv (T.pd (Lm xs)) (T.pd (Lm ys)) = _
  rw [T.pd, T.pd, PyData.eqv]
  exact eqvAll_Li xs ys
theorem atI_natT {α : Type} {xs : List α} {j : Nat} {v : α} (h : xs[j]? = some v) : atI xs (j : Int) = some v := L2.atI_nat h
theorem ixN_nat {n j : Nat} (h : j < n) : ixN n (j : Int) = some j := by
  unfold ixN
  rw [if_pos (by omega), if_pos (by omega)]
  simp
theorem atI_Li {xs : List Int} {i : Nat} {x : Int} (h : xs[i]? = some x) : atI (xs.map T.int) (i : Int) = some (.int x) := L2.atI_nat (by rw [List.getElem?_map, h]; rfl)
theorem atI_Lm {xs : List (List Int)} {i : Nat} {x : List Int} (h : xs[i]? = some x) : atI (xs.map fun x => Li x) (i : Int) = some (Li x) := L2.atI_nat (by rw [List.getElem?_map, h]; rfl)
theorem atI_neg1 {α : Type} {xs : List α} {x : α} (h : xs.getLast? = some x) : atI xs (-1) = some x := by
  have hl : xs ≠ [] := by rintro rfl; cases h
  have h0 : 0 < xs.length := List.length_pos_iff.mpr hl
  unfold atI ixN
  rw [if_neg (by omega), if_pos (by omega)]
  show xs[((-1 : Int) + xs.length).toNat]? = some x
  rw [show ((-1 : Int) + xs.length).toNat = xs.length - 1 by omega, ← List.getLast?_eq_getElem?]
  exact h
theorem getLast_map {α β : Type} {f : α → β} {xs : List α} {x : α} (h : xs.getLast? = some x) : (xs.map f).getLast? = some (f x) := by
  rw [List.getLast?_map, h]; rfl
theorem noAl_ow {i n : Nat} {t : T} : noAl i (.ow n t) = .ow n t := rfl
theorem noAl_io1 {i n : Nat} {t : T} : noAl i (.io n t) = .io n t := rfl
theorem noAl_no {i : Nat} : noAl i .no = .no := rfl
theorem noAl_ro {i : Nat} {t : T} : noAl i (.ro t) = .ro t := rfl
theorem noAl_al' {i j k : Nat} {t : T} : noAl i (.al j k t) = if j = i then .no else .al j k t := rfl
theorem noRo_ow {js : List Nat} {n : Nat} {t : T} : noRo js (.ow n t) = .ow n t := rfl
theorem noRo_io {js : List Nat} {n : Nat} {t : T} : noRo js (.io n t) = .io n t := rfl
theorem noRo_no {js : List Nat} : noRo js .no = .no := rfl
theorem noRA_ow {n : Nat} {t : T} : noRA (.ow n t) = .ow n t := rfl
theorem noRA_io {n : Nat} {t : T} : noRA (.io n t) = .io n t := rfl
theorem noRA_no : noRA .no = .no := rfl
theorem noRA_al {i j : Nat} {t : T} : noRA (.al i j t) = .no := rfl
theorem shE_ow0 {t : T} : shE (.ow 0 t) = .ow 0 t := rfl
theorem shE_ow1 {n : Nat} {t : T} : shE (.ow (n + 1) t) = .no := rfl
theorem shE_io {n : Nat} {t : T} : shE (.io n t) = .no := rfl
theorem shE_no : shE .no = .no := rfl
theorem gIx_Li {xs : List Int} {i : Nat} {x : Int} {R : T → Prop} (h : xs[i]? = some x) (hR : R (.int x)) : gIx (Li xs) (.int (i : Nat)) R := by
  show match atI (xs.map T.int) (i : Int) with | some x => R x | none => False
  rw [atI_Li h]; exact hR
theorem gIx_Lm {xs : List (List Int)} {i : Nat} {x : List Int} {R : T → Prop} (h : xs[i]? = some x) (hR : R (Li x)) : gIx (Lm xs) (.int (i : Nat)) R := by
  show match atI (xs.map fun x => Li x) (i : Int) with | some x => R x | none => False
  rw [atI_Lm h]; exact hR
theorem gIx_lst {xs : List T} {i : Nat} {x : T} {R : T → Prop} (h : xs[i]? = some x) (hR : R x) : gIx (.lst xs) (.int (i : Nat)) R := by
  show match atI xs (i : Int) with | some x => R x | none => False
  rw [atI_natT h]; exact hR
theorem gIx_last {xs : List T} {x : T} {R : T → Prop} (h : xs.getLast? = some x) (hR : R x) : gIx (.lst xs) (.int (-1)) R := by
  show match atI xs (-1) with | some x => R x | none => False
  rw [atI_neg1 h]; exact hR
theorem lst_set {xs : List Int} {i : Nat} {v : Int} : T.lst ((xs.map T.int).set i (T.int v)) = Li (xs.set i v) := congrArg T.lst List.map_set.symm
theorem lst_snoc {xs : List Int} {v : Int} : T.lst (xs.map T.int ++ [T.int v]) = Li (xs ++ [v]) := by show _ = T.lst _; rw [List.map_append]; rfl
theorem lm_set {xs : List (List Int)} {i : Nat} {v : List Int} : T.lst ((xs.map fun x => Li x).set i (Li v)) = Lm (xs.set i v) := congrArg T.lst List.map_set.symm
theorem lm_snoc {xs : List (List Int)} {v : List Int} : T.lst ((xs.map fun x => Li x) ++ [Li v]) = Lm (xs ++ [v]) := by show _ = T.lst _; rw [List.map_append]; rfl
theorem lst_nil : T.lst [] = Li [] := rfl
/-! ### calls whose first argument is slot 0, changed -/
theorem putL_none {us : List (Nat × T)} : ∀ {ρ : List Ent} {k : Nat}, (∀ i, k ≤ i → us.lookup i = none) → putL us k ρ = ρ
  | [], _, _ => rfl
  | e :: ρ, k, h => by
    rw [putL, h k (Nat.le_refl _), putL_none fun i hi => h i (by omega)]
theorem putL_0 {t : T} {e : Ent} {ρ : List Ent} : putL [(0, t)] 0 (e :: ρ) = e.put t :: ρ := by
  rw [putL, putL_none fun i hi => ?_]
  · rfl
  · show (match i == 0 with | true => some t | false => List.lookup i []) = none
    rw [show (i == 0) = false from beq_eq_false_iff_ne.mpr (by omega)]; rfl
theorem inT_io1 {n : Nat} {t x u : T} {ρ : List Ent} : inT (.io n t :: ρ) [.io n, .sh] [.sl 0, .tv 0] [x, u] = some [t, u] := by simp [inT, Ent.own]
theorem inT_ow1 {n : Nat} {t x u : T} {ρ : List Ent} : inT (.ow n t :: ρ) [.io n, .sh] [.sl 0, .tv 0] [x, u] = some [t, u] := by simp [inT, Ent.own]
theorem killJ_cons {js : List Nat} {e : Ent} {ρ : List Ent} : killJ js (e :: ρ) = noRo js e :: killJ js ρ := rfl
theorem killJ_nil0 {js : List Nat} : killJ js [] = [] := rfl
theorem putL_e : ∀ {ρ : List Ent} {k : Nat}, putL [] k ρ = ρ := putL_none fun _ _ => rfl
theorem noRo_al {js : List Nat} {j i : Nat} {t : T} : noRo js (.al j i t) = if j ∈ js then .no else .al j i t := rfl
theorem mem1 {a b : Nat} : (a ∈ [b]) = (a = b) := by simp
end TL
set_option Elab.async false
set_option linter.all false
set_option maxRecDepth 100000
namespace TL
open PySem PySem.Spec PyProof.Rows L2
/-! ### defs that may raise -/
abbrev FnX := List T → (Nat → T → Prop) → (XT → Prop) → Prop
def spTX (K : PySem.W.Frag) (n : Nat) (W : FnX) : Sp := fun vs H Q E => ∃ (ts : List T) (S : Addr → Prop) (R : Nat → T → Prop) (Xr : XT → Prop),
  Shrs K H S ts vs ∧ (∀ a, S a → H a ≠ none) ∧ TbOk H ∧ ts.length = n ∧ W ts R Xr ∧
  (∀ m t v H' S' F, R m t → Same H H' → Own K H' S' m t v F → (∀ a, S' a → fresh S H a ∧ H' a ≠ none) → (∀ a ∈ F, H a = none) → F.Nodup → (∀ a ∈ F, ¬ S' a) → Q v H') ∧
  ∀ x cls d H', Xr x → Same H H' → ExcAt x cls d H' → E cls d H'
section
variable {P : Program} {w : World} {K : PySem.W.Frag} {mg : Str → Option Value} {base : Heap}
theorem sta0 {ts : List T} {vs : List V} {S : Addr → Prop} {H : Hp} {N : List Str} (h : Shrs K H S ts vs) (ht : ∀ a, S a → H a ≠ none) (tb : TbOk H) (hN : ts.length ≤ N.length) : Sta K ⟨S, H, [], L2.start N vs⟩ [] (rho0 (allSh ts.length) ts N.length) (L2.start N vs) H := by
  have pin := shRoots_pin h
  have gd := good_sh h ht tb
  have hl : vs.length = ts.length := h.length.symm
  refine ⟨S, shRoots ts vs ++ List.replicate (N.length - ts.length) ⟨.no, none, []⟩, ?_, ?_, ?_, fun k' j i t hh => ?_, fun i n t _ => rfl, fun r hr => nomatch hr⟩
  · rw [List.map_append, pin.ents, List.map_replicate]; rfl
  · rw [List.map_append, pin.outs, List.map_replicate]
    unfold L2.start
    rw [hl]
  · rw [List.append_nil]
    have fs : foot (shRoots ts vs) = [] := shRoots_foot
    refine ⟨fun m r e => ?_, fun m l r q e1 e2 ne a ha hb => ?_, ht, fun a o e _ => .inl e, fun a z => .inl z, tb⟩
    · by_cases hm : m < (shRoots ts vs).length
      · rw [List.getElem?_append_left hm] at e
        obtain ⟨a, b, c⟩ := gd.slot m r e
        obtain ⟨_, eF⟩ := shRoots_get h m r e
        exact ⟨a, b, fun x hx => by rw [eF] at hx; cases hx⟩
      · rw [List.getElem?_append_right (by omega), List.getElem?_replicate] at e
        split at e
        · have e := (Option.some.inj e).symm
          subst e
          exact ⟨rfl, List.nodup_nil, fun a z => nomatch z⟩
        · cases e
    · by_cases hm : m < (shRoots ts vs).length
      · rw [List.getElem?_append_left hm] at e1
        rw [(shRoots_get h m r e1).2] at ha
        cases ha
      · rw [List.getElem?_append_right (by omega), List.getElem?_replicate] at e1
        split at e1
        · have e1 := (Option.some.inj e1).symm
          subst e1
          cases ha
        · cases e1
  · exfalso
    have mem := List.mem_of_getElem? hh
    unfold rho0 at mem
    rcases List.mem_append.mp mem with mem | mem
    · rw [← pin.ents] at mem
      obtain ⟨r, hr, e⟩ := List.mem_map.mp mem
      obtain ⟨i', hi'⟩ := List.mem_iff_getElem?.mp hr
      have key : ∀ {ts : List T} {vs : List V}, ∀ r ∈ shRoots ts vs, ∃ n t, r.e = .ow n t := by
        intro ts
        induction ts with
        | nil => intro vs r h; cases vs <;> cases h
        | cons t ts ih =>
          intro vs r h
          cases vs with
          | nil => cases h
          | cons v vs =>
            rcases List.mem_cons.mp h with rfl | h
            · exact ⟨0, t, rfl⟩
            · exact ih r h
      obtain ⟨n', t', e'⟩ := key r hr
      rw [e'] at e
      cases e
    · rw [List.mem_replicate] at mem
      cases mem.2
theorem Sta.sameH {f : Fm} {τ : List Root} {ρ : List Ent} {σ : St} {H : Hp} (s : Sta K f τ ρ σ H) (hW : f.W = []) : Same f.H0 H := by
  obtain ⟨S, rs, s⟩ := s
  exact Same.of (fun b o e => s.good.fr b o e (by rw [hW]; exact fun z => nomatch z)) fun _ => s.good.tb
/-- the rule for a def that may raise -/
theorem fnTX {x qual : Str} {st : Stmt} {fa : Addr} {fd : FuncData} {N ps : List Str} {k n : Nat} {W : FnX} (F : Fun K x qual st fa fd) (S : FnScope N ps (defScope st)) (hl : n = ps.length)
    (hbody : ∀ (X : Cx) (cdv : Value) (A : Around) (outer : List Env) (s : Shared) (H : Hp) (E : XK), X = cxOf (L2N.CX P w) P w K mg base N qual (defScope st) fa cdv A outer s H E → Room k X.A → ∃ u, TSs X (fun cls d _ H => E cls d H) (defBody st) u ∧
      ∀ ts R Xr, W ts R Xr → ts.length = n → u { nx := fun _ => R 0 .non, rt := fun m t _ => R m t, xc := fun x _ => Xr x } (rho0 (allSh n) ts N.length)) :
    FnOk P w K mg base (L2N.CX P w) (k + 1) fa fd ps (spTX K n W) := by
  obtain ⟨oc, od, kV, doc, pm, an, cdv, ct, osl, rfl, lk, hcd⟩ := F.ex
  refine fn_of lk hcd S (fun vs H Q E h => ?_) (fun A outer s H vs Q E hr h => ?_)
  · obtain ⟨ts, S0, R, Xr, h1, _, _, h3, _⟩ := h
    rw [← h1.length, h3, hl]
  · obtain ⟨ts, S0, R, Xr, h1, h2, tb, h3, h4, h5, h6⟩ := h
    obtain ⟨u, hu, hW⟩ := hbody _ cdv A outer s H E rfl hr
    obtain ⟨tt, hp, ht⟩ := hu.ok
    refine ⟨tt, hp, ?_⟩
    have hN : ps.length ≤ N.length := by have := congrArg List.length S.pre; rw [List.length_take] at this; omega
    have sta := sta0 (N := N) h1 h2 tb (by omega)
    rw [h3] at sta
    have fin : ∀ m t ρ σ v F H', R m t → Sta K ⟨S0, H, [], L2.start N vs⟩ ([] ++ [tmp m t v F]) ρ σ H' → Q v H' := fun m t ρ σ v F H' hR hs => by
      have sm := hs.sameH rfl
      obtain ⟨S', rs, s'⟩ := hs
      have gt : (rs ++ ([] ++ [tmp m t v F]))[rs.length]? = some (tmp m t v F) := getElem?_last
      obtain ⟨p1, p2, p3⟩ := s'.good.slot _ _ gt
      obtain ⟨v', e2, own⟩ := p1
      cases e2
      refine h5 m t v H' S' F hR sm own (fun a z => ⟨?_, s'.good.trk a z⟩) (fun a z => ?_) p2 fun a z => (p3 a z).1
      · rcases s'.good.src a z with q | q | q
        · exact .inl q
        · exact .inr q
        · cases q
      · rcases (p3 a z).2 with q | q
        · exact q
        · cases q
    refine ht ⟨S0, H, [], L2.start N vs⟩ [] _ _ H { nx := fun _ => R 0 .non, rt := fun m t _ => R m t, xc := fun x _ => Xr x } _ sta ⟨fun ρ σ H' h s => ?_, fun m t ρ σ v F H' h s => fin m t ρ σ v F H' h s, fun _ _ _ h => h.elim, fun _ _ _ h => h.elim, fun x ρ σ cls d H' h s e => h6 x cls d H' h (s.sameH rfl) e⟩ (hW ts R Xr h4 h3)
    obtain ⟨S', rsF, s'⟩ := s
    exact fin 0 .non ρ σ .non [] H' h ⟨S', rsF, s'.pushS .non⟩
end
end TL
set_option Elab.async false
set_option linter.all false
set_option maxRecDepth 100000
namespace TL
open PySem PySem.Spec PyProof.Rows L2
section
variable {K : PySem.W.Frag} {f : Fm} {S S' : Addr → Prop} {H H' : Hp} {τ τ' ms rs rs' : List Root} {ρ ρ' : List Ent} {σ : St}
/-- a new value held, what it shares may be new too -/
theorem StaW.pushO (s : StaW K f τ ρ σ H S rs) (hs : Same H H') {n : Nat} {t : T} {v : V} {F : List Addr} (own : Own K H' S' n t v F) (nd : F.Nodup) (hF : ∀ a ∈ F, H a = none) (hS : ∀ a, S' a → fresh S H a ∧ H' a ≠ none) (hd : ∀ a ∈ F, ¬ S' a) :
    StaW K f (τ ++ [tmp n t v F]) ρ σ H' (fun a => S a ∨ S' a) rs := by
  have noS : ∀ {m : Nat} {r : Root} {a : Addr}, (rs ++ τ)[m]? = some r → a ∈ r.F → ¬ (S a ∨ S' a) := fun {m r a} e hx z => by
    rcases z with z | z
    · exact ((s.good.slot m r e).2.2 a hx).1 z
    · rcases (hS a z).1 with z | z
      · exact ((s.good.slot m r e).2.2 a hx).1 z
      · obtain ⟨vs, e2⟩ := s.good.own_there e hx
        rw [z] at e2; cases e2
  refine ⟨s.e, s.o, ?_, fun k' j i t h => ((s.al k' j i t h).same hs).mono fun x z => .inl z, s.io, tm_app s.tm ⟨_, _, rfl⟩⟩
  rw [← List.append_assoc]
  have nw : ∀ {m : Nat} {r : Root} {a : Addr}, (rs ++ τ)[m]? = some r → a ∈ F → a ∉ r.F := fun e ha hm => by
    obtain ⟨vs, q⟩ := s.good.own_there e hm
    rw [hF _ ha] at q; cases q
  exact {
    slot := fun m r e => by
      rcases app_old e with ⟨_, rfl⟩ | ⟨_, e⟩
      · refine ⟨⟨v, rfl, own.mono fun _ => .inr⟩, nd, fun a z => ⟨fun y => ?_, s.good.none_src (hF a z)⟩⟩
        rcases y with y | y
        · exact s.good.trk a y (hF a z)
        · exact hd a z y
      · obtain ⟨a, b, c⟩ := s.good.slot m r e
        exact ⟨a.keep (fun x z => .inl z) (.same hs) (fun _ _ => .same hs), b, fun x hx => ⟨noS e hx, (c x hx).2⟩⟩
    dj := fun m l r q e1 e2 ne a ha hb => by
      rcases app_old e1 with ⟨d1, rfl⟩ | ⟨_, g1⟩
      · rcases app_old e2 with ⟨d2, rfl⟩ | ⟨_, g2⟩
        · exact ne (d1.trans d2.symm)
        · exact nw g2 ha hb
      · rcases app_old e2 with ⟨_, rfl⟩ | ⟨_, g2⟩
        · exact nw g1 hb ha
        · exact s.good.dj m l r q g1 g2 ne a ha hb
    trk := fun a z => by
      rcases z with z | z
      · exact fun y => s.good.trk a z (hs.free y)
      · exact (hS a z).2
    tb := hs.tb s.good.tb
    fr := fun a o h1 h2 => hs.stay (s.good.fr a o h1 h2)
    src := fun a z => by
      rcases z with z | z
      · exact s.good.src a z
      · rcases (hS a z).1 with z | z
        · exact s.good.src a z
        · exact .inr (s.good.none_src z) }
end
/-! ### an expression whose call may raise -/
structure TVX (X : Cx) (W : WX) (e : Expr) (w : List Ent → (Nat → T → List Ent → Prop) → (XT → List Ent → Prop) → Prop) : Prop where
  ok : ∃ tt : TE, PE X e tt ∧ ∀ (f : Fm) (τ : List Root) (ρ : List Ent) (σ : St) (H : Hp) (Q : VK) (R : Nat → T → List Ent → Prop) (Xr : XT → List Ent → Prop), Sta X.K f τ ρ σ H → w ρ R Xr →
    (∀ n t ρ' v F H', R n t ρ' → Sta X.K f (τ ++ [tmp n t v F]) ρ' σ H' → Q v H') → (∀ x ρ' cls d H', Xr x ρ' → Sta X.K f τ ρ' σ H' → ExcAt x cls d H' → W cls d σ H') → tt σ H Q
section
variable {X : Cx} {W : WX} {e : Expr} {es : List Expr} {pos p pos' : Pos} {ks : List Nat} {vA : List Ent → (List T → List Ent → Prop) → Prop} {wx : List Ent → (Nat → T → List Ent → Prop) → (XT → List Ent → Prop) → Prop}
def wCallX (n : Nat) (W : FnX) (vA : List Ent → (List T → List Ent → Prop) → Prop) : List Ent → (Nat → T → List Ent → Prop) → (XT → List Ent → Prop) → Prop := fun ρ R Xr => vA ρ fun ts ρ' => ts.length = n ∧ W ts (fun m t => R m t ρ') (fun x => Xr x ρ')
theorem tvx_call {x : Str} {fa : Addr} {fd : FuncData} {qs : List Str} {k n : Nat} {Wf : FnX} (tk : L2N.Takes X W) (F : FnOk X.prog X.w X.K X.mg X.base (L2N.CX X.prog X.w) k fa fd qs (spTX X.K n Wf)) (hr : Room k X.A) (hg : Gl X x) (hm : X.mg x = some (.ref fa)) (hk : PySem.W.keepIn X.K (.ref fa) = true) (hb : Binds X.K fd qs [])
    (ha : TVA X ks (e :: es) vA) (h0 : ∀ m ∈ ks, m = 0 := by simp) (hdb : (x == ("__debug__" : Str)) = false := by decide) (he : starEach (e :: es) X.env = (false, eval e X.env) :: starEach es X.env := by rfl) (hpl : (backTo pos (starEach es X.env)).any (·.1) = false := by rfl) :
    TVX X W (.Call (.Name x p) (e :: es) [] pos) (wCallX n Wf vA) := by
  obtain ⟨ta, pa, ka⟩ := ha.ok
  refine ⟨⟨_, pe_callS (E := WE W) F hr hg hm hk hb (fun σ => L2N.passAt tk σ) pa hdb he hpl, fun f τ ρ σ H Q R Xr hs hw hq hx => ?_⟩⟩
  refine ka f τ ρ σ H _ _ hs hw fun ts ρ' vs ms H1 h1 hm1 s1 => ?_
  have em := s1.shm hm1 h0
  subst em
  have hl : ts.length = vs.length := by rw [hm1.lens.1, hm1.lens.2]
  obtain ⟨S, rs, s⟩ := s1
  have s0 : StaW X.K f (τ ++ shRoots ts vs ++ []) ρ' σ H1 S rs := by rw [List.append_nil]; exact s
  have sp := s.pop
  refine ⟨ts, S, fun m t => R m t ρ', fun x => Xr x ρ', s0.shr hl, sp.good.trk, sp.good.tb, h1.1, h1.2, fun m t v H' S' F hR sm own hS hF nd hd => ?_, fun x cls d H' hX sm ex => ?_⟩
  · exact hq m t ρ' v F H' hR ⟨_, rs, sp.pushO sm own nd hF hS hd⟩
  · exact hx x ρ' cls d H' hX ⟨S, rs, sp.same sm⟩ ex
def uExpX (wx : List Ent → (Nat → T → List Ent → Prop) → (XT → List Ent → Prop) → Prop) : TEnds → List Ent → Prop := fun De ρ => wx ρ (fun _ _ ρ' => De.nx ρ') De.xc
theorem ts_exprX (he : TVX X W e wx) (hs : swapsWith e none pos.line X.env = pure false := by rfl) : TS1 X W (.Expr e pos) (uExpX wx) := by
  obtain ⟨t1, p1, k1⟩ := he.ok
  exact ⟨⟨_, ps_expr p1 hs, fun f τ ρ σ H De D hs hl hw => k1 f τ ρ σ H _ _ _ hs hw (fun n t ρ' v F H' h s => hl.nx ρ' σ H' h s.pop) fun x ρ' cls d H' h s e => hl.xc x ρ' σ cls d H' h s e⟩⟩
def uRetX (wx : List Ent → (Nat → T → List Ent → Prop) → (XT → List Ent → Prop) → Prop) : TEnds → List Ent → Prop := fun De ρ => wx ρ De.rt De.xc
theorem ts_retX (he : TVX X W e wx) : TS1 X W (.Return (some e) pos) (uRetX wx) := by
  obtain ⟨t1, p1, k1⟩ := he.ok
  exact ⟨⟨_, ps_ret p1, fun f τ ρ σ H De D hs hl hw => k1 f τ ρ σ H _ _ _ hs hw (fun n t ρ' v F H' h s => hl.rt n t ρ' σ v F H' h s) fun x ρ' cls d H' h s e => hl.xc x ρ' σ cls d H' h s e⟩⟩
def uSetX (i : Nat) (wx : List Ent → (Nat → T → List Ent → Prop) → (XT → List Ent → Prop) → Prop) : TEnds → List Ent → Prop := fun De ρ => wx ρ (fun n t ρ' => i < ρ'.length ∧ De.nx (setE ρ' i (.ow n t))) De.xc
theorem ts_setX (i : Nat) {x : Str} (hN : X.N.Nodup) (hi : X.N[i]? = some x) (hx : Loc X.env.scope x) (he : TVX X W e wx) (hs : swapsWith e (some (.Name x pos')) pos.line X.env = pure false := by rfl) (hf : X.fn x = true ∨ X.env.scope.names.lookup x = some .local := by first | exact .inl rfl | exact .inr rfl | assumption) :
    TS1 X W (.Assign [.Name x pos'] e pos) (uSetX i wx) := by
  obtain ⟨t1, p1, k1⟩ := he.ok
  refine ⟨⟨_, ps_set hN hi hx p1 hs hf, fun f τ ρ σ H De D hs hl hw => k1 f τ ρ σ H _ _ _ hs hw (fun n t ρ' v F H' h s => hl.nx _ _ H' h.2 (s.setV h.1)) fun x ρ' cls d H' h s e => hl.xc x ρ' σ cls d H' h s e⟩⟩
end
end TL
set_option Elab.async false
set_option linter.all false
set_option maxRecDepth 100000
namespace TL
open PySem PySem.Spec PyProof.Rows L2
/-! ### raise C(e, ..), C an own class with an __init__ -/
section
variable {X : Cx} {W : WX} {e : Expr} {es : List Expr} {ta : TA} {x : Str} {p pos pos2 : Pos} {C fI : Addr} {k : Nat} {fd : FuncData} {ps : List Str} {sp : Sp}
theorem pmkN (T : OexC X.K C) (iC : PySem.W.findIn X.K (.ref C) "__init__" = some (some (.ref fI))) (tI : PySem.W.typeIn X.K (.ref fI) = some (.type "function"))
    (F1 : FnOk X.prog X.w X.K X.mg X.base CX0 k fI fd ps sp) (hr : Room (k + 1) X.A) (hb : Binds X.K fd ps []) (hg : Gl X x) (hm : X.mg x = some (.ref C)) (ha : PA X (e :: es) ta)
    (hdb : (x == ("__debug__" : Str)) = false := by decide) (hst : starEach (e :: es) X.env = (false, eval e X.env) :: starEach es X.env := by rfl) (hpl : (backTo pos (starEach es X.env)).any (·.1) = false := by rfl) :
    L2N.PMk X (.Call (.Name x p) (e :: es) [] pos) (tMkO C sp [] ta) := by
  intro pins s σ H Q I h
  obtain ⟨q1, q2, q3, q4, q5, q6, q7, q8, q9, q10, r0, r1, r2, r3, r5, hcls, hbm⟩ := T.cls
  refine wpAny_Call_Name_kw (ld_glob I hg hm ?_ hdb)
  refine PySem.W.callWith_K (h₀ := X.base) I.ok.mod.kin T.kC (thn (ha.run pos pins s σ H _ I h) fun us s1 z => ?_) hst hpl
  obtain ⟨vs, H1, I1, rv, hn, q⟩ := z
  refine ⟨I1.kIn, ?_⟩
  show wpAny _ _ (call (.ref C) us) _ _ _
  obtain ⟨hp, gs, dr, tk, os⟩ := s1
  -- the exception's address: behind the tuple of the arguments
  generalize hx : hp.objs.size + 1 = ax
  have big : hp.objs.size ≤ ax := by omega
  have hinit := q ax (I1.hok.fresh big)
  rw [List.append_nil] at hinit
  generalize hh2 : (hp.push (PySem.W.kdv_tup us)).push (PySem.HandSPX.excO C hp.objs.size) = hp2
  have keep : ∀ b o, hp.get? b = some o → hp2.get? b = some o := fun b o g => by
    rw [← hh2]; exact Heap.get?_push_of_some _ (Heap.get?_push_of_some _ g)
  have there : hp2.get? ax = some (PySem.HandSPX.excO C hp.objs.size) := by
    rw [← hh2, ← hx]; heap_get
  have I2 : Inv X pins σ (upd H1 ax (exo ax C none)) ⟨hp2, gs, dr, tk, os⟩ := I1.laid (t' := tk) (a := ax) (h' := hp2) keep big (exo_ok there)
  have len1 := F1.len _ _ _ _ hinit
  have rv2 : Vals (V.ref ax :: vs) (Value.ref ax :: us) := .cons rfl rv
  have hb2 := hb ⟨hp2, gs, dr, tk, os⟩ (Value.ref ax :: us) I2.kIn (by rw [List.append_nil, ← rv2.length]; exact len1)
  rw [List.append_nil] at hb2
  have small : us.length ≤ sizeLine := by
    rw [← Paired.length rv, sizeLine_eq]; omega
  have goal : wpAny (model X.prog X.w) X.A (call (.ref C) us) (L2N.MkP X pins σ Q) X.xe ⟨hp, gs, dr, tk, os⟩ := by
    refine wpAny_call (PySem.HandSPX.call_own F.excBase_ValueError (fun Y => PySem.HandSPX.refsVE_contains Y q5 hbm) (I1.kIn _ _ hcls) (PySem.W.looks_findIn I1.kIn iC) (fun self => PySem.W.bind_fn I1.kIn self tI) small ?_)
    have run := F1.run (X.A.under (.builtin "type.__call__" ⟨.ref C :: us, []⟩)) X.stack ⟨hp2, gs, dr, tk, os⟩ _ ⟨Value.ref ax :: us, []⟩ _ _ _ (fun _ _ _ => False) (hr.make C us []) (I2.env0.make C us []) hb2 rv2 hinit
    rw [← hx, ← hh2] at run
    refine codeAny_mono run fun r s' hq => ?_
    cases r with
    | error er => exact hq.elim
    | ok fl =>
      cases fl with
      | ret u =>
        obtain ⟨v, H2, os2, bare2, un2, hok2, ru, ev, d, fs, ea, ed, hd1, hQ⟩ := hq
        subst ev
        obtain ⟨h2, g2, d2, t2, os'⟩ := s'
        refine ⟨ru, ?_⟩
        rw [hh2, hx] at un2
        rw [hx] at ea hQ
        obtain ⟨t0, G, J, kG, nG, hoe, na⟩ := mk_end0 (d2 := d2) (t2 := t2) I1 big keep un2 hok2 os2 bare2 ea ed hd1
        rw [hx]
        refine ⟨ax, _, _, ⟨G, g2, d2, t2, os'⟩, _, .ref C, some d, rfl, J, kG, nG, hoe, ⟨rfl, rfl, fun ws hv => ?_⟩, rfl, rfl, na, rfl, bare2, raises_own T.exC T.tyC, hQ⟩
        cases hv
        rfl
      | next => exact hq.elim
      | brk => exact hq.elim
      | cont => exact hq.elim
  exact goal
end
/-! ### __init__ of one field -/
def spI1 (K : PySem.W.Frag) (f : Str) : Sp := fun vs H Q _ => ∃ (a C : Addr) (y : V), vs = [.ref a, y] ∧ OexC K C ∧ PySem.W.findIn K (.ref C) f = some none ∧ H a = some (exo a C none) ∧
  ∀ dx, H dx = none → dx ≠ a → Q .non (upd (upd H dx (exd dx [(f, y)])) a (exo a C (some dx)))
/-- an own exception class with one field f, kept by its __init__ (st) -/
structure XC1 (K : PySem.W.Frag) (mg : Str → Option Value) (nm qual f : Str) (st : Stmt) where
  C : Addr
  fI : Addr
  d : FuncData
  g : mg nm = some (.ref C)
  o : OexC K C
  i : PySem.W.findIn K (.ref C) "__init__" = some (some (.ref fI))
  t : PySem.W.typeIn K (.ref fI) = some (.type "function")
  F : Fun K "__init__" qual st fI d
  b : Binds K d ["self", f] []
  no : PySem.W.findIn K (.ref C) f = some none
section
variable {X : Cx} {W : WX} {e : Expr} {w : List Ent → (T → Prop) → Prop} {x f : Str} {p pos pos2 : Pos} {C fI : Addr} {k : Nat} {fd : FuncData}
def uRaise1 (C : Addr) (f : Str) (w : List Ent → (T → Prop) → Prop) : TEnds → List Ent → Prop := fun De ρ => w ρ fun t => t.is1 = true ∧ De.xc ⟨C, [(f, t.v1)]⟩ ρ
theorem shr_is1 {K : PySem.W.Frag} {S : Addr → Prop} {H : Hp} {t : T} {v : V} (h : Shr K H S t v) (h1 : t.is1 = true) : v = t.v1 := by
  cases t using T.cs <;> first | exact absurd (show false = true from h1) Bool.false_ne_true | skip
  · exact shr_non h
  · exact shr_bl h
  · exact shr_int h
  · exact shr_str h
theorem ts_raise1 {nm qual : Str} {st : Stmt} {C0 : Addr} (hc : X.calm = true) (tk : L2N.Takes X W) (T : XC1 X.K X.mg nm qual f st) (hC : T.C = C0) (F1 : FnOk X.prog X.w X.K X.mg X.base CX0 k T.fI T.d ["self", f] (spI1 X.K f)) (hr : Room (k + 1) X.A) (hg : Gl X nm) (ha : TPE X e w)
    (hdb : (nm == ("__debug__" : Str)) = false := by decide) (hst : starEach (e :: []) X.env = (false, eval e X.env) :: starEach [] X.env := by rfl) (hpl : (backTo pos (starEach [] X.env)).any (·.1) = false := by rfl) :
    TS1 X W (.Raise (some (.Call (.Name nm p) [e] [] pos)) none pos2) (uRaise1 C0 f w) := by
  subst hC
  obtain ⟨te, pe, ke⟩ := ha.ok
  refine ⟨⟨_, L2N.ps_raise hc tk (pmkN T.o T.i T.t F1 hr T.b hg T.g (pa_cons pe pa_nil hst) hdb hst hpl), fun f0 τ ρ σ H De D hs hl hw => ?_⟩⟩
  refine ke _ ρ σ H _ _ hs.rdAll hw fun t v H1 h1 sm sh => ?_
  show _ ∧ _
  refine ⟨by simp, fun a na => ⟨a, T.C, v, rfl, T.o, T.no, upd_same, fun dx nd ne => ⟨rfl, dx, [(f, v)], upd_same, ?_, ?_, ?_⟩⟩⟩
  · rw [upd_ne ne, upd_same]
  · rw [upd_ne ne] at nd; exact nd
  · rw [upd_ne ne] at nd
    have eH : upd (del (upd (upd (upd H1 a (exo a T.C none)) dx (exd dx [(f, v)])) a (exo a T.C (some dx))) a) dx (.xd [(f, v)]) = upd H1 dx (.xd [(f, v)]) := by
      funext b
      by_cases hb : b = dx
      · subst hb; rw [upd_same, upd_same]
      · rw [upd_ne hb, upd_ne hb]
        by_cases hb2 : b = a
        · subst hb2; rw [del_same, na]
        · rw [del_ne hb2, upd_ne hb2, upd_ne hb, upd_ne hb2]
    rw [eH]
    have sm2 : Same H1 (upd H1 dx (.xd [(f, v)])) := Same.new nd (by first | exact nt_lst | exact nt_tup | exact nt_dK | exact nt_dT | exact nt_xd)
    exact hl.xc _ ρ σ _ _ _ h1.2 (hs.same (sm.trans sm2)) ⟨rfl, dx, rfl, by rw [shr_is1 sh h1.1]; exact upd_same⟩
end
end TL
set_option Elab.async false
set_option linter.all false
set_option maxRecDepth 100000
namespace TL
open PySem PySem.Spec PyProof.Rows L2 L2H
/-! ### a def called while an exception is handled, the exception its argument -/
structure FnE (P : Program) (w : World) (K : PySem.W.Frag) (mg : Str → Option Value) (base : Heap) (k : Nat) (f : Addr) (fd : FuncData) (ps : List Str) (sp : Addr × Obj → Sp) : Prop where
  len : ∀ p vs H Q E, sp p vs H Q E → vs.length = ps.length
  run : ∀ (p : Addr × Obj) (A : Around) (outer : List Env) (s : Shared) (H : Hp) (args : Args) (us : List Value) (vs : List V) (Q : VK) (E : XK), RoomH k A → Hot1 A p → PinOk outer H s p → Env0 P w K mg base A outer s H → BindsTo s fd args (ps.zip us) → Vals vs us → sp p vs H Q E →
    codeAny (model P w) A (.call (.ref f) args) (CR CX0 outer P w H s Q E) s
section
variable {P : Program} {w : World} {K : PySem.W.Frag} {mg : Str → Option Value} {base : Heap}
theorem fnE_of {x qual : Str} {st : Stmt} {fa : Addr} {fd : FuncData} {N ps : List Str} {k : Nat} {sp : Addr × Obj → Sp} (F : Fun K x qual st fa fd) (S : FnScope N ps (defScope st)) (len : ∀ p vs H Q E, sp p vs H Q E → vs.length = ps.length)
    (hbody : ∀ (p : Addr × Obj) (cdv : Value) (A : Around) (outer : List Env) (s : Shared) (H : Hp) (vs : List V) (Q : VK) (E : XK), RoomH k (A.deeper (envOfC qual (defScope st) s.heap.objs.size fa cdv)) → sp p vs H Q E →
      ∃ t, PSs (cxH CX0 P w K mg base N qual (defScope st) fa cdv A outer s H E p).nox (defBody st) t ∧ t { nx := fun _ H' => Q .non H', rt := Q } (L2.start N vs) H) : FnE P w K mg base (k + 1) fa fd ps sp := by
  obtain ⟨oc, od, kV, doc, pm, an, cdv, ct, osl, rfl, lk, hcd⟩ := F.ex
  refine ⟨len, fun p A outer s H args us vs Q E room hot pin e0 bind rv hsp => ?_⟩
  have nvs := len _ _ _ _ _ hsp
  have inK : K.In s.heap := e0.mod.kin.keeps fun b o z => (e0.bs b o z).1
  have noLim : s.heap.NoLimit := e0.mod.nolimit.keeps fun b o z => (e0.bs b o z).1
  have kinds : ∀ y ∈ ps.zip us, (defScope st).names.lookup y.1 = some .local ∨ ((defScope st).names.lookup y.1 = some .cell ∧ ((cellsFrom (s.heap.objs.size + 1) (defScope st).names []).lookup y.1).isSome = true) := by
    rintro ⟨n, v⟩ hy
    exact (S.par n (List.of_mem_zip hy).1).imp id fun q => ⟨q, PySem.W.cellsFrom_some _ _ _ (.inl q)⟩
  refine codeAny_call_function room.depth (inK _ _ lk) rfl S.co S.gen rfl (PySem.W.codeRec_of inK hcd) (bind _ _ _ _ ?_)
  refine wpAny_newFunctionEnv_cells S.kind kinds fun env ee s1 ic => ?_
  subst ee
  refine ⟨noLim.keeps ic.toInCall.keep, codeAny_func ?_⟩
  obtain ⟨t, ht, hq⟩ := hbody p cdv A outer s H vs Q E (room.deeper _) hsp
  have I0 := inv_startH (CX := CX0) (qual := qual) (f := fa) (cd := cdv) (E := E) S pin e0 nvs rv ic
  refine wpAny_mono (ht.nox.run [] s1 (L2.start N vs) H _ I0 hq) (fun fl s1 z => ?_) fun e s1 z => z
  cases fl with
  | ret u =>
    obtain ⟨v, _, H', J, ru, q⟩ := z
    exact ⟨v, H', J.os, J.bare, J.base, J.hok, ru, q⟩
  | next =>
    obtain ⟨_, H', J, q⟩ := z
    exact ⟨.non, H', J.os, J.bare, J.base, J.hok, rfl, q⟩
  | brk => obtain ⟨_, _, _, q⟩ := z; exact q.elim
  | cont => obtain ⟨_, _, _, q⟩ := z; exact q.elim
end
/-! ### the contract of such a def -/
/-- the exception at a stands pinned: its class, its dict -/
def PinAt (X : Cx) (a C dd : Addr) : Prop := ∃ (oe : Obj) (vs : Array Value), (a, oe) ∈ X.pn ∧ oe.cls = .ref C ∧ oe.dict = some dd ∧ oe.data = .fields vs
abbrev FnW := XT → (Nat → T → Prop) → Prop
def spE (K : PySem.W.Frag) (W : FnW) (p : Addr × Obj) : Sp := fun vs H Q _ => ∃ (x : XT) (dd : Addr) (R : Nat → T → Prop), vs = [.ref p.1] ∧ p.2.cls = .ref x.C ∧ p.2.dict = some dd ∧ (∃ fv, p.2.data = .fields fv) ∧ H dd = some (.xd x.fs) ∧ TbOk H ∧ W x R ∧
  ∀ m t v H' S' F, R m t → Same H H' → Own K H' S' m t v F → (∀ a, S' a → fresh (fun b => b = dd) H a ∧ H' a ≠ none) → (∀ a ∈ F, H a = none) → F.Nodup → (∀ a ∈ F, ¬ S' a) → Q v H'
section
variable {P : Program} {w : World} {K : PySem.W.Frag} {mg : Str → Option Value} {base : Heap}
theorem fnTE {x qual n : Str} {st : Stmt} {fa : Addr} {fd : FuncData} {N : List Str} {k : Nat} {W : FnW} (F : Fun K x qual st fa fd) (S : FnScope N [n] (defScope st))
    (hbody : ∀ (X : Cx) (p : Addr × Obj) (cdv : Value) (A : Around) (outer : List Env) (s : Shared) (H : Hp) (E : XK), X = (cxH CX0 P w K mg base N qual (defScope st) fa cdv A outer s H E p).nox → RoomH k X.A → ∃ u, TSs X (fun _ _ _ _ => False) (defBody st) u ∧
      ∀ x dd R, PinAt X p.1 x.C dd → W x R → u { nx := fun _ => R 0 .non, rt := fun m t _ => R m t } (rho0 (allSh 1) [.exc p.1 x.C dd x.fs] N.length)) : FnE P w K mg base (k + 1) fa fd [n] (spE K W) := by
  refine fnE_of F S (fun p vs H Q E h => ?_) fun p cdv A outer s H vs Q E hr h => ?_
  · obtain ⟨x, dd, R, rfl, _⟩ := h; rfl
  · obtain ⟨x, dd, R, rfl, hc, hd, ⟨fv, hfv⟩, hx, tb, hW, hq⟩ := h
    obtain ⟨u, hu, hw⟩ := hbody _ p cdv A outer s H E rfl hr
    obtain ⟨tt, hp, ht⟩ := hu.ok
    refine ⟨tt, hp, ?_⟩
    have hN : [n].length ≤ N.length := by have := congrArg List.length S.pre; rw [List.length_take] at this; omega
    have sh : Shrs K H (fun b => b = dd) [.exc p.1 x.C dd x.fs] [.ref p.1] := Shrs.cons (.exc hx rfl) .nil
    have sta := sta0 (N := N) sh (fun a e => by subst e; rw [hx]; exact fun z => nomatch z) tb hN
    have fin : ∀ m t ρ σ v F H', R m t → Sta K ⟨fun b => b = dd, H, [], L2.start N [.ref p.1]⟩ ([] ++ [tmp m t v F]) ρ σ H' → Q v H' := fun m t ρ σ v F H' hR hs => by
      have sm := hs.sameH rfl
      obtain ⟨S', rs, s'⟩ := hs
      have gt : (rs ++ ([] ++ [tmp m t v F]))[rs.length]? = some (tmp m t v F) := getElem?_last
      obtain ⟨⟨v', e2, own⟩, p2, p3⟩ := s'.good.slot _ _ gt
      cases e2
      refine hq m t v H' S' F hR sm own (fun a z => ⟨?_, s'.good.trk a z⟩) (fun a z => ?_) p2 fun a z => (p3 a z).1
      · rcases s'.good.src a z with q | q | q
        · exact .inl q
        · exact .inr q
        · cases q
      · rcases (p3 a z).2 with q | q
        · exact q
        · cases q
    refine ht ⟨fun b => b = dd, H, [], L2.start N [.ref p.1]⟩ [] _ _ H { nx := fun _ => R 0 .non, rt := fun m t _ => R m t } _ sta ⟨fun ρ σ H' h s => ?_, fun m t ρ σ v F H' h s => fin m t ρ σ v F H' h s, fun _ _ _ h => h.elim, fun _ _ _ h => h.elim, fun x ρ σ cls d H' h s e => h.elim⟩ (hw x dd R ⟨p.2, fv, List.mem_cons_self, hc, hd, hfv⟩ hW)
    obtain ⟨S', rsF, s'⟩ := s
    exact fin 0 .non ρ σ .non [] H' h ⟨S', rsF, s'.pushS .non⟩
end
/-! ### what such a def asks of the exception -/
def T.ofV : V → T
  | .bl b => .bl b
  | .int i => .int i
  | .str s => .str s
  | _ => .non
theorem T.of_v1 {t : T} (h : t.is1 = true) : T.ofV t.v1 = t := by cases t using T.cs <;> first | rfl | exact absurd (show false = true from h) Bool.false_ne_true
def flat1 : V → Bool
  | .non => true
  | .bl _ => true
  | .int _ => true
  | .str _ => true
  | _ => false
theorem shr_ofV {K : PySem.W.Frag} {H : Hp} {S : Addr → Prop} {v : V} (h : flat1 v = true) : Shr K H S (T.ofV v) v := by
  cases v <;> first | exact .non | exact .bl _ | exact .int _ | exact .str _ | exact absurd (show false = true from h) Bool.false_ne_true
theorem flat1_v1 {t : T} (h : t.is1 = true) : flat1 t.v1 = true := by cases t using T.cs <;> first | rfl | exact absurd (show false = true from h) Bool.false_ne_true
section
variable {X : Cx} {x y n : Str} {p px py pos : Pos} {v : V} {cv : Value}
theorem instAt_pin {pins : List (Addr × Obj)} {σ : St} {H : Hp} {s : Shared} (I : Inv X pins σ H s) {a C dd : Addr} {fs : List (Str × V)} (hp : PinAt X a C dd) (hd : H dd = some (.xd fs)) :
    ∃ (oe od : Obj) (mA : Str → Option Value), PySem.W.InstAt s.heap a oe C (some od) ∧ (∀ f, RelO (fs.lookup f) (mA f)) ∧ ∀ f, PySem.W.lookIn f od = some (mA f) := by
  obtain ⟨oe, vs, h1, h2, h3, h4⟩ := hp
  obtain ⟨hget, _⟩ := I.pin (a, oe) (List.mem_append_left _ h1)
  have hx : ObjOk X.prog X.w H s.heap dd (.xd fs) := I.hok dd _ hd
  obtain ⟨mA, hns, hr⟩ := hx
  obtain ⟨od, ho, hl⟩ := lookIn_ns hns
  exact ⟨oe, od, mA, ⟨hget, h2, by unfold PySem.W.notCls; rw [h4] <;> rfl, by rw [h3]; exact ho⟩, hr, hl⟩
/-- isinstance(e, c), e the exception -/
def rIsX (X : Cx) (v : V) (cv : Value) : List V → Hp → VK → Prop := fun xs H Q => ∃ (a C dd : Addr) (fs : List (Str × V)) (b : Bool), xs = [.ref a, v] ∧ PinAt X a C dd ∧ H dd = some (.xd fs) ∧ ExcC X.K C ∧ PySem.W.kitOne X.K (.ref C) cv = some b ∧ Q (.bl b) H
theorem call_isX (hv : ∀ u, RelV v u → u = cv) : CallR X (.builtin "isinstance") (rIsX X v cv) := by
  intro pins s σ H xs us Q I r h
  obtain ⟨a, C, dd, fs, b, rfl, hp, hd, c, e, q⟩ := h
  cases r with
  | cons r1 r2 =>
    cases r2 with
    | cons r3 r4 =>
      cases r4
      rename_i u1 u2
      obtain rfl : u1 = Value.ref a := r1
      obtain rfl := hv _ r3
      obtain ⟨oe, od, _, J, _⟩ := instAt_pin I hp hd
      obtain ⟨cd, hcd, _⟩ := PySem.W.any_some c.hd
      exact PySem.W.kia_one (PySem.W.kitx_exc (by rw [hcd]; rfl) c.hg c.hk c.hs c.ha c.hn c.ht c.hm) I.kIn J e (fun z => nomatch z) fun tk => ⟨.bl b, H, I.tok tk, rfl, q⟩
def wIsE (X : Cx) (i : Nat) (cv : Value) : List Ent → (T → Prop) → Prop := fun ρ R => ∃ a C dd fs b, (ρ[i]?.bind Ent.tr) = some (.exc a C dd fs) ∧ PinAt X a C dd ∧ ExcC X.K C ∧ PySem.W.kitOne X.K (.ref C) cv = some b ∧ R (.bl b)
theorem exc_slot {S : Addr → Prop} {ρ : List Ent} {σ : St} {H : Hp} {i : Nat} {a C dd : Addr} {fs : List (Str × V)} (hr : RdS X.K S ρ σ H) (h : (ρ[i]?.bind Ent.tr) = some (.exc a C dd fs)) : σ[i]? = some (some (.ref a)) ∧ H dd = some (.xd fs) := by
  cases e : ρ[i]? with
  | none => rw [e] at h; cases h
  | some en =>
    rw [e] at h
    obtain ⟨v, h1, h2⟩ := hr i en _ e h
    cases h2 with
    | exc h3 _ => exact ⟨h1, h3⟩
theorem tp_isE (i : Nat) (hcv : ∀ u, RelV v u → u = cv) (hg : Gl X "isinstance") (hm : X.mg "isinstance" = none) (hN : X.N[i]? = some x) (hv : Vis X.env.scope x) (hc : PE X (.Name y py) (tC v)) (hd : (x == ("__debug__" : Str)) = false := by decide) (hcd : (x == ("__classdict__" : Str)) = false := by decide)
    (h1 : starEach [.Name x px, .Name y py] X.env = (false, eval (.Name x px) X.env) :: starEach [.Name y py] X.env := by rfl) (h2 : starEach [.Name y py] X.env = (false, eval (.Name y py) X.env) :: starEach [] X.env := by rfl) (hpl : (backTo pos (starEach [.Name y py] X.env)).any (·.1) = false := by rfl) :
    TPE X (.Call (.Name "isinstance" p) [.Name x px, .Name y py] [] pos) (wIsE X i cv) := by
  refine ⟨⟨_, pe_callB (call_isX hcv) hg hm (by decide +kernel) (pa_cons (pe_var hN hv hd hcd) (pa_cons hc pa_nil h2) h1) (by decide) (by decide) h1 hpl, fun S ρ σ H Q R hr hw hq => ?_⟩⟩
  obtain ⟨a, C, dd, fs, b, h3, hp, c, e, hR⟩ := hw
  obtain ⟨s1, s2⟩ := exc_slot hr h3
  exact ⟨.ref a, s1, a, C, dd, fs, b, rfl, hp, s2, c, e, hq _ _ _ hR (Same.refl H) (.bl _)⟩
/-- e.f, e the exception -/
def wFldE (X : Cx) (i : Nat) (f : Str) : List Ent → (T → Prop) → Prop := fun ρ R => ∃ a C dd fs v, (ρ[i]?.bind Ent.tr) = some (.exc a C dd fs) ∧ PinAt X a C dd ∧ XfC X.K C ∧ PySem.W.findIn X.K (.ref C) f = some none ∧ fs.lookup f = some v ∧ flat1 v = true ∧ R (T.ofV v)
theorem tp_fldE (i : Nat) {f : Str} (hN : X.N[i]? = some x) (hv : Vis X.env.scope x) (hd : (x == ("__debug__" : Str)) = false := by decide) (hcd : (x == ("__classdict__" : Str)) = false := by decide)
    (hb : attributeBase (.Name x px) f X.env (eval (.Name x px) X.env) = eval (.Name x px) X.env := by rfl) : TPE X (.Attribute (.Name x px) f pos) (wFldE X i f) := by
  refine ⟨⟨fun σ H Q => ∃ a C dd fs v, σ[i]? = some (some (.ref a)) ∧ PinAt X a C dd ∧ XfC X.K C ∧ PySem.W.findIn X.K (.ref C) f = some none ∧ H dd = some (.xd fs) ∧ fs.lookup f = some v ∧ Q v H, ⟨fun pins s σ H Q I h => ?_⟩, fun S ρ σ H Q R hr hw hq => ?_⟩⟩
  · obtain ⟨a, C, dd, fs, v, h1, hp, xf, no, hdd, hl, q⟩ := h
    refine attr_of hb (thn ((pe_var (pos := px) hN hv hd hcd).run pins s σ H (fun x H1 => x = .ref a ∧ H1 = H) I ⟨_, h1, rfl, rfl⟩) fun u s1 z => ?_)
    obtain ⟨x1, H1, I1, rx, e1, e2⟩ := z
    subst e1 e2
    obtain rfl : u = Value.ref a := rx
    obtain ⟨oe, od, mA, J, hr, hlk⟩ := instAt_pin I1 hp hdd
    obtain ⟨u, hu, ru⟩ := RelO.some_of (v := v) (o := mA f) (by rw [← hl]; exact hr f)
    exact HandSPX.exc_get I1.kIn J xf.ga xf.gg xf.exC (PySem.W.findObj_own xf.hdC no rfl (by rw [hlk, hu])) (handed_of ru) ⟨v, H1, I1.tok _, ru, q⟩
  · obtain ⟨a, C, dd, fs, v, h3, hp, xf, no, hl, hf, hR⟩ := hw
    obtain ⟨s1, s2⟩ := exc_slot hr h3
    exact ⟨a, C, dd, fs, v, s1, hp, xf, no, s2, hl, hq _ _ _ hR (Same.refl H) (shr_ofV hf)⟩
end
end TL
set_option Elab.async false
set_option linter.all false
set_option maxRecDepth 100000
namespace TL
open PySem PySem.Spec PyProof.Rows L2 L2H
/-! ### try: body, except C as n: return g(n) -/
/-- a block's wish told by the slots alone -/
def canS (K : PySem.W.Frag) (W : WX) (u : TEnds → List Ent → Prop) : TS := fun D σ H => ∃ (f : Fm) (τ : List Root) (ρ : List Ent) (De : TEnds), Sta K f τ ρ σ H ∧ Lk K f τ De D W ∧ u De ρ
theorem TSs.can {X : Cx} {W : WX} {sts : List Stmt} {u : TEnds → List Ent → Prop} (h : TSs X W sts u) : PSs X sts (canS X.K W u) := by
  obtain ⟨tt, hp, ht⟩ := h.ok
  refine ⟨fun pins s σ H D I z => ?_⟩
  obtain ⟨f, τ, ρ, De, a, b, c⟩ := z
  exact hp.run pins s σ H D I (ht f τ ρ σ H De D a b c)
/-- around a def of the empty wish nothing is let out -/
theorem takesN0 {X : Cx} : L2N.Takes X (fun _ _ _ _ => False) := fun _ _ x => by
  obtain ⟨_, _, _, _, _, _, _, _, _, _, _, _, _, _, _, _, z⟩ := x
  exact z.elim
section
variable {X : Cx} {W : WX} {n g par cx : Str} {i k : Nat} {a f CP : Addr} {oe : Obj} {fd : FuncData} {sp : Addr × Obj → Sp} {q p pos pos2 pos3 pos' np : Pos} {body : List Stmt} {u : TEnds → List Ent → Prop} {Wf : FnW}
theorem pe_callE (F : FnE X.prog X.w X.K X.mg X.base k f fd [par] sp) (hr : RoomH k X.A) (hot : Hot1 X.A (a, oe)) (hp : (a, oe) ∈ X.pn) (hg : Gl X g) (hm : X.mg g = some (.ref f)) (hk : PySem.W.keepIn X.K (.ref f) = true) (hb : Binds X.K fd [par] []) (hN : X.N[i]? = some n) (hv : Vis X.env.scope n)
    (hd : (n == ("__debug__" : Str)) = false) (hcd : (n == ("__classdict__" : Str)) = false) (hdg : (g == ("__debug__" : Str)) = false) (h1 : starEach [.Name n p] X.env = (false, eval (.Name n p) X.env) :: starEach [] X.env) (hpl : (backTo pos (starEach [] X.env)).any (·.1) = false) :
    PE X (.Call (.Name g q) [.Name n p] [] pos) (fun σ H Q => σ[i]? = some (some (.ref a)) ∧ sp (a, oe) [.ref a] H Q fun _ _ _ => False) := by
  refine ⟨fun pins s σ H Q I h => ?_⟩
  obtain ⟨h2, h3⟩ := h
  refine wpAny_Call_Name_kw (ld_glob I hg hm ?_ hdg)
  refine PySem.W.callWith_K (h₀ := X.base) I.ok.mod.kin hk (thn ((pa_cons (pe_var hN hv hd hcd) pa_nil h1).run pos pins s σ H (fun vs H1 => vs = [.ref a] ∧ H1 = H) I ⟨_, h2, rfl, rfl⟩) fun us s1 z => ?_) h1 hpl
  obtain ⟨vs, H1, I1, rv, e1, e2⟩ := z
  subst e1 e2
  refine ⟨I1.kIn, ?_⟩
  have len := rv.length
  have b := hb s1 us I1.kIn (by rw [List.append_nil, ← len]; rfl)
  rw [List.append_nil] at b
  obtain ⟨g1, g2, g3, g4, g5⟩ := I1.pin (a, oe) (List.mem_append_left _ hp)
  have pin : PinOk X.stack H1 s1 (a, oe) := ⟨g1, g2, fun m => (List.mem_cons.mp (I1.stkSub a m)).elim g3 g4, g5⟩
  show wpAny _ _ (call (.ref f) us) _ _ _
  refine wpAny_call (codeAny_mono (F.run (a, oe) X.A X.stack s1 H1 ⟨us, []⟩ us _ Q (fun _ _ _ => False) hr hot pin I1.env0 b rv h3) fun r s' z => ?_)
  cases r with
  | error e => exact z.elim
  | ok fl =>
    cases fl with
    | ret u => exact I1.after z
    | next => exact z.elim
    | brk => exact z.elim
    | cont => exact z.elim
def tSuiteE (K : PySem.W.Frag) (i : Nat) (Wf : FnW) : Addr → Value → Option Addr → TS := fun a cls d D σ H => σ[i]? = some (some (.ref a)) ∧ ∃ (x : XT) (dd : Addr) (R : Nat → T → Prop), cls = .ref x.C ∧ d = some dd ∧ H dd = some (.xd x.fs) ∧ TbOk H ∧ Wf x R ∧
  ∀ m t v H' S' F, R m t → Same H H' → Own K H' S' m t v F → (∀ a, S' a → fresh (fun b => b = dd) H a ∧ H' a ≠ none) → (∀ a ∈ F, H a = none) → F.Nodup → (∀ a ∈ F, ¬ S' a) → D.rt v H'
def uTryE (K : PySem.W.Frag) (CP : Addr) (i : Nat) (Wf : FnW) (u : TEnds → List Ent → Prop) : TEnds → List Ent → Prop := fun De ρ =>
  u { De with xc := fun x ρ' => PySem.W.exmOne K (.ref x.C) (.ref CP) = some true ∧ i < ρ'.length ∧ Wf x fun m t => t.flatAt m = true ∧ De.rt m t ρ' } ρ
theorem ts_tryE (i : Nat) (hstk : X.stack = X.env :: X.outer) (hfr : X.env.frame = some X.env.locals) (hN : X.N.Nodup) (hi : X.N[i]? = some n) (hln : X.env.kindOf n = some .local) (hv : Vis X.env.scope n) (hc : Names X cx (.ref CP)) (tk : L2N.Takes X W)
    (F : FnE X.prog X.w X.K X.mg X.base k f fd [par] (spE X.K Wf)) (hr : Room k X.A) (hg : Gl X g) (hm : X.mg g = some (.ref f)) (hk : PySem.W.keepIn X.K (.ref f) = true) (hb : Binds X.K fd [par] [])
    (hbody : ∀ (W' : WX) (pn : List (Addr × Obj)) (xe : Value → Shared → Prop), L2N.Takes (X.tr pn xe) W' → PassesOwn (model X.prog X.w) X.A X.env xe → TSs (X.tr pn xe) W' body u)
    (hd : (n == ("__debug__" : Str)) = false := by decide) (hcd : (n == ("__classdict__" : Str)) = false := by decide) (hdg : (g == ("__debug__" : Str)) = false := by decide)
    (h1 : ∀ A' xe' pn', starEach [.Name n p] ({ X with A := A', xe := xe', pn := pn', calm := false } : Cx).env = (false, eval (.Name n p) X.env) :: starEach [] X.env := by intros; rfl) (hpl : (backTo pos (starEach [] X.env)).any (·.1) = false := by rfl) :
    TS1 X W (.Try body [.ExceptHandler (some (.Name cx np)) (some n) [.Return (some (.Call (.Name g q) [.Name n p] [] pos)) pos2] pos'] [] [] pos3) (uTryE X.K CP i Wf u) := by
  refine ⟨⟨fun D σ H => canS X.K (wAs X.K (.ref CP) i (tSuiteE X.K i Wf) W D) u D σ H, ⟨fun pins s σ H D I h => ?_⟩, fun f0 τ ρ σ H De D hs hl hw => ?_⟩⟩
  · refine (L2N.ps_try_as (tb := fun W' => canS X.K W' u) (ts := tSuiteE X.K i Wf) hstk hfr hN hi hln hc tk (fun W' pn xe t1 t2 => (hbody W' pn xe t1 t2).can) fun a oe cls d pn zn fv => ⟨fun pins s σ H D I h => ?_⟩).run pins s σ H D I h
    obtain ⟨h2, x, dd, R, rfl, rfl, hx, tb, hW, hq⟩ := h
    obtain ⟨fv, efv⟩ := fv
    refine (pss_one (ps_ret (pe_callE (X := X.suite a ((a, oe) :: pn)) (a := a) (oe := oe) F ⟨hr.dp, hr.un⟩ ⟨rfl, fv, efv, zn.2.2 fv efv⟩ List.mem_cons_self hg hm hk hb hi hv hd hcd hdg (h1 _ _ _) hpl))).run pins s σ H D I ?_
    exact ⟨h2, x, dd, R, rfl, zn.1, zn.2.1, ⟨fv, efv⟩, hx, tb, hW, hq⟩
  · refine ⟨f0, τ, ρ, { De with xc := fun x ρ' => PySem.W.exmOne X.K (.ref x.C) (.ref CP) = some true ∧ i < ρ'.length ∧ Wf x fun m t => t.flatAt m = true ∧ De.rt m t ρ' }, hs, ⟨hl.nx, hl.rt, hl.bk, hl.ct, fun x ρ' σ' cls d H' hx hs' ex => ?_⟩, hw⟩
    obtain ⟨rfl, dd, rfl, hdd⟩ := ex
    refine ⟨true, hx.1, fun _ a ha => ⟨?_, x, dd, _, rfl, rfl, hdd, (Sta.rdAll hs').tb, hx.2.2, fun m t v H2 S' F hR sm own hS hF nd hn => ?_⟩, fun z => nomatch z⟩
    · obtain ⟨S, rs, s'⟩ := hs'
      exact List.getElem?_set_self (by rw [← s'.lenσ, s'.len]; exact hx.2.1)
    · obtain ⟨S, rs, s'⟩ := hs'
      exact hl.rt m t ρ' σ' v F H2 hR.2 ⟨_, rs, s'.pushO (S' := fun _ => False) sm (own.anyS hR.1 _) nd hF (fun _ z => z.elim) fun _ _ z => z⟩
end
end TL
set_option Elab.async false
set_option linter.all false
set_option maxRecDepth 100000
namespace TL
open PySem PySem.Spec PyProof.Rows L2
/-! ### tuples of ints by < -/
section
variable {K : PySem.W.Frag}
def gLtT : F2 := fun t u R => match t, u with
  | .tup ts, .tup us => ∃ ns ms, ts = ns.map T.int ∧ us = ms.map T.int ∧ R (.bl (HT.lexLt ns ms))
  | _, _ => False
theorem opT_ltT : OpT K (rLtT K) gLtT := by
  intro S H x y t u Q R h1 h2 hg hq
  cases t using T.cs <;> cases u using T.cs <;> first | exact hg.elim | skip
  obtain ⟨ns, ms, rfl, rfl, hR⟩ := hg
  obtain ⟨a, vs, rfl, q1, r1⟩ := shr_tup h1
  obtain ⟨b, ws, rfl, q2, r2⟩ := shr_tup h2
  rw [Shrs.ints r1] at q1
  rw [Shrs.ints r2] at q2
  exact ⟨a, b, ns, ms, rfl, rfl, q1, q2, hq _ _ _ hR (Same.refl H) (.bl _)⟩
/-! ### range down -/
/-- lo, lo - 1, .. -/
def rgD (lo : Int) (n : Nat) : List T := (List.range n).map fun (i : Nat) => T.int (lo - i)
theorem rgD_len {lo : Int} {n : Nat} : (rgD lo n).length = n := by unfold rgD; simp
theorem rgD_get {lo : Int} {n i : Nat} {t : T} : (rgD lo n)[i]? = some t ↔ i < n ∧ t = .int (lo - i) := by
  unfold rgD
  rw [List.getElem?_map]
  by_cases h : i < n
  · rw [List.getElem?_range h]
    simp [h, eq_comm]
  · rw [List.getElem?_eq_none_iff.mpr (by simp; omega)]
    simp [h]
theorem ith_rngD {lo : Int} {n : Nat} : ItH K (Itc lo (-1) n) [] [] (rgD lo n) := by
  refine ⟨rfl, fun i H S _ hi => ?_, fun H S _ => ?_, fun i H S x H' hi _ y => ?_⟩
  · rw [rgD_len] at hi; exact hi
  · rw [rgD_len]; exact Nat.le_refl n
  · rw [rgD_len] at hi
    obtain ⟨rfl, rfl⟩ := y
    have e : lo + (i : Int) * -1 = lo - i := by omega
    refine ⟨.int (lo - i), rgD_get.mpr ⟨hi, rfl⟩, Same.refl _, ?_⟩
    rw [e]
    exact .int _
end
section
variable {X : Cx} {W : WX} {tg a b c e : Expr} {p pos : Pos} {wa wb wc : List Ent → (T → Prop) → Prop}
def iRngD (wa wb wc : List Ent → (T → Prop) → Prop) : List Ent → (List T → List Ent → Prop) → Prop := fun ρ R => wa ρ fun t => wb ρ fun u => wc ρ fun v => match t, u, v with
  | .int i, .int j, .int k => k = -1 ∧ (-(2 ^ 62) ≤ i ∧ i < 2 ^ 62 ∧ -(2 ^ 62) ≤ j ∧ j < 2 ^ 62) ∧ R (rgD i (i - j).toNat) ρ
  | _, _, _ => False
theorem ti_rngD (hg : Gl X "range") (hm : X.mg "range" = none) (ha : TPE X a wa) (hb : TPE X b wb) (hc : TPE X c wc) (h1 : starEach [a, b, c] X.env = (false, eval a X.env) :: starEach [b, c] X.env := by rfl) (h2 : starEach [b, c] X.env = (false, eval b X.env) :: starEach [c] X.env := by rfl) (h3 : starEach [c] X.env = (false, eval c X.env) :: starEach [] X.env := by rfl)
    (hpl : (backTo pos (starEach [b, c] X.env)).any (·.1) = false := by rfl) : TIt X tg (.Call (.Name "range" p) [a, b, c] [] pos) (iRngD wa wb wc) := by
  obtain ⟨ta, pa, ka⟩ := (tpa_cons ha (tpa_cons hb (tpa_cons hc tpa_nil h3) h2) h1).ok
  refine ⟨⟨_, pi_range3 hg hm pa h1 hpl, fun f τ ρ σ H Q R hs hw hq => ?_⟩⟩
  have key : ∀ t u v, (match (t : T), (u : T), (v : T) with
    | .int i, .int j, .int k => k = -1 ∧ (-(2 ^ 62) ≤ i ∧ i < 2 ^ 62 ∧ -(2 ^ 62) ≤ j ∧ j < 2 ^ 62) ∧ R (rgD i (i - j).toNat) ρ
    | _, _, _ => False) = (∃ i j k : Int, [t, u, v] = [.int i, .int j, .int k] ∧ k = -1 ∧ (-(2 ^ 62) ≤ i ∧ i < 2 ^ 62 ∧ -(2 ^ 62) ≤ j ∧ j < 2 ^ 62) ∧ R (rgD i (i - j).toNat) ρ) := by
    intro t u v
    refine propext ⟨fun h => ?_, fun h => ?_⟩
    · cases t <;> cases u <;> cases v <;> first | exact h.elim | exact ⟨_, _, _, rfl, h⟩
    · obtain ⟨i, j, k, e, h⟩ := h
      cases e
      exact h
  refine ka _ ρ σ H _ (fun ts => ∃ i j k : Int, ts = [.int i, .int j, .int k] ∧ k = -1 ∧ (-(2 ^ 62) ≤ i ∧ i < 2 ^ 62 ∧ -(2 ^ 62) ≤ j ∧ j < 2 ^ 62) ∧ R (rgD i (i - j).toNat) ρ) hs.rdAll ?_ fun ts vs H1 h2 s1 x1 => ?_
  · unfold iRngD at hw
    simp only [key] at hw
    exact hw
  · obtain ⟨i, j, k, rfl, rfl, ⟨b1, b2, b3, b4⟩, hR⟩ := h2
    obtain ⟨v1, r1, rfl, x2, x3⟩ := x1.uncons
    obtain ⟨v2, r2, rfl, x4, x5⟩ := x3.uncons
    obtain ⟨v3, r3, rfl, x6, x7⟩ := x5.uncons
    have e : r3 = [] := by have := x7.length; exact List.eq_nil_of_length_eq_zero this.symm
    subst e
    refine ⟨i, j, -1, (i - j).toNat, by rw [shr_int x2, shr_int x4, shr_int x6], RgC.neg b1 b2 b3 b4, hq _ [] [] _ _ _ hR ith_rngD ?_⟩
    rw [show shRoots [] [] = [] from rfl, List.append_nil]
    exact hs.same s1
end
/-! ### sorted: a list of pairs of ints -/
abbrev pr (p : Int × Int) : T := .tup [.int p.1, .int p.2]
def rSortT (K : PySem.W.Frag) : List V → Hp → VK → Prop := fun vs H Q => ∃ (a : Addr) (xs : List V) (ps : List (Int × Int)), vs = [V.ref a] ∧ SqL K H a xs ∧ xs.length = ps.length ∧
  (∀ (i : Nat) (v : V) (q : Int × Int), xs[i]? = some v → ps[i]? = some q → ∃ t, v = .ref t ∧ SqT K H t [.int q.1, .int q.2]) ∧
  ∀ (zs : List (V × (Int × Int))) (p : Addr), zs.Perm (xs.zip ps) → (zs.map (·.2)).Pairwise (fun x y => SrtO.lexB y x = false) → H p = none → Q (.ref p) (upd H p (.lst (zs.map (·.1))))
theorem cr_sortT {X : Cx} : CallR X (.builtin "sorted") (rSortT X.K) := by
  intro pins s σ H vs us Q I r h
  obtain ⟨a, xs, ps, rfl, hs, hlen, hx, q⟩ := h
  obtain ⟨its, rv, hl, hz⟩ := I.list hs
  obtain ⟨u, rfl, ru⟩ := vals1 r
  obtain rfl : u = Value.ref a := ru
  have pairOf : ∀ (i : Nat) (w : Value) (g : Int × Int), its[i]? = some w → ps[i]? = some g → Srt.IsPair s.heap w g.1 g.2 := fun i w g h1 h2 => by
    have hi : i < xs.length := by rw [rv.length]; exact (List.getElem?_eq_some_iff.mp h1).1
    obtain ⟨u, e1, e2⟩ := rv.get (List.getElem?_eq_getElem hi)
    rw [h1] at e1
    have e1 := Option.some.inj e1
    subst e1
    obtain ⟨t, e3, ht⟩ := hx i _ g (List.getElem?_eq_getElem hi) h2
    rw [e3] at e2
    obtain rfl : w = Value.ref t := e2
    obtain ⟨its2, r2, ⟨o, ho, hc, n, hd⟩, _⟩ := I.tuple ht
    obtain ⟨u1, u2, rfl, ri, rj⟩ := vals2 r2
    obtain ⟨t1, rfl⟩ := ri
    obtain ⟨t2, rfl⟩ := rj
    exact ⟨t, o, t1, t2, n, rfl, ho, hc, hd⟩
  -- the pair read off the heap
  let kv : Value → Int × Int := fun w => match TS.intsOf s.heap w with
    | [i, j] => (i, j)
    | _ => (0, 0)
  have kv_of : ∀ {w : Value} {i j : Int}, Srt.IsPair s.heap w i j → kv w = (i, j) := fun {w i j} z => by
    obtain ⟨t, o, t1, t2, n, rfl, ho, hc, hd⟩ := z
    have e : TS.intsOf s.heap (.ref t) = [i, j] := TS.TupInts.ints ⟨t, #[.int i t1, .int j t2], rfl, ⟨o, ho, hc, n, hd⟩, Vals.ints (ns := [i, j]) (.cons ⟨t1, rfl⟩ (.cons ⟨t2, rfl⟩ .nil))⟩
    show (match TS.intsOf s.heap (.ref t) with | [i, j] => (i, j) | _ => (0, 0)) = (i, j)
    rw [e]
  have rl := rv.length
  have kAt : ∀ (i : Nat) (w : Value), its[i]? = some w → ps[i]? = some (kv w) ∧ Srt.IsPair s.heap w (kv w).1 (kv w).2 := fun i w h1 => by
    have hi : i < ps.length := by rw [← hlen, rl]; exact (List.getElem?_eq_some_iff.mp h1).1
    have z := pairOf i w _ h1 (List.getElem?_eq_getElem hi)
    have e := kv_of z
    refine ⟨by rw [List.getElem?_eq_getElem hi, e], ?_⟩
    rw [e]; exact z
  obtain ⟨e1, e2⟩ := refs_back rv fun x m => by
    obtain ⟨i, hi⟩ := List.mem_iff_getElem?.mp m
    have hl2 : i < ps.length := by rw [← hlen]; exact (List.getElem?_eq_some_iff.mp hi).1
    obtain ⟨t, e, _⟩ := hx i x _ hi (List.getElem?_eq_getElem hl2)
    exact ⟨t, e⟩
  have zipE : xs.zip ps = its.map fun w => (backV w, kv w) := by
    apply List.ext_getElem?
    intro i
    rw [List.getElem?_map]
    cases h1 : its[i]? with
    | none =>
      have : its.length ≤ i := List.getElem?_eq_none_iff.mp h1
      rw [List.getElem?_eq_none_iff.mpr (by rw [List.length_zip]; omega)]; rfl
    | some w =>
      obtain ⟨h2, _⟩ := kAt i w h1
      have h3 : xs[i]? = some (backV w) := by rw [e1, List.getElem?_map, h1]; rfl
      rw [List.getElem?_zip_eq_some (z := (backV w, kv w)) |>.mpr ⟨h3, h2⟩]; rfl
  refine SrtO.sorted_pairsO (k := kv) hl.isList (by rw [← rl]; exact hz) (fun v hv => ?_) fun h' d out h1 h2 kp hd hn => ?_
  · obtain ⟨i, hi⟩ := List.mem_iff_getElem?.mp hv
    exact (kAt i v hi).2
  · have h3 : ∀ u ∈ out, ∃ a, u = Value.ref a := fun u hu => e2 u (h2.perm.mem_iff.mp hu)
    obtain ⟨n, hn⟩ := hn
    have Z0 := q (out.map fun w => (backV w, kv w)) d (by rw [zipE]; exact h2.perm.map _) (by rw [List.map_map]; exact SrtO.srtd_map (f := kv) h1) (I.hok.fresh hd)
    rw [List.map_map] at Z0
    have Z : Q (.ref d) (upd H d (.lst (out.map backV))) := Z0
    have lz : (out.map backV).length ≤ sizeLine := by rw [List.length_map, h2.len, ← rl]; exact hz
    exact ⟨.ref d, upd H d (.lst (out.map backV)), I.laid (t' := s.toks) kp hd ⟨lz, out, n, vals_back h3, hn⟩, rfl, Z⟩
section
variable {X : Cx} {e : Expr} {p pos : Pos} {ks : List Nat} {vA : List Ent → (List T → List Ent → Prop) → Prop}
def vSortP (vA : List Ent → (List T → List Ent → Prop) → Prop) : List Ent → (Nat → T → List Ent → Prop) → Prop := fun ρ R => vA ρ fun ts ρ' => ∃ ps : List (Int × Int), ts = [.lst (ps.map pr)] ∧ ∀ qs : List (Int × Int), qs.Perm ps → qs.Pairwise (fun x y => SrtO.lexB y x = false) → R 1 (.lst (qs.map pr)) ρ'
theorem pr_flat (qs : List (Int × Int)) : T.flats (qs.map pr) = true := flatAts_iff.mpr fun t h => by
  obtain ⟨q, _, rfl⟩ := List.mem_map.mp h
  rfl
/-- sorted(e), e pairs of ints -/
theorem tv_sortP (hg : Gl X "sorted") (hm : X.mg "sorted" = none) (ha : TVA X ks [e] vA) (hv : bootBuiltins "sorted" = some (.builtin "sorted") := by decide +kernel) (hs : starEach [e] X.env = (false, eval e X.env) :: starEach [] X.env := by rfl) (hpl : (backTo pos (starEach [] X.env)).any (·.1) = false := by rfl) :
    TVE X (.Call (.Name "sorted" p) [e] [] pos) (vSortP vA) := by
  obtain ⟨ta, pa, ka⟩ := ha.ok
  refine ⟨⟨_, pe_callB cr_sortT hg hm hv pa (by decide) (by decide) hs hpl, fun f τ ρ σ H Q R h1 hw hq => ?_⟩⟩
  refine ka f τ ρ σ H _ _ h1 hw fun ts ρ' vs ms H1 h2 h3 s1 => ?_
  obtain ⟨ps, rfl, hR⟩ := h2
  obtain ⟨v, rfl, x1⟩ := shrs1 (s1.shrs h3)
  obtain ⟨a, xs, rfl, q, r⟩ := shr_lst x1
  have lx : (ps.map pr).length = xs.length := r.length
  rw [List.length_map] at lx
  have item : ∀ (i : Nat) (w : V) (g : Int × Int), xs[i]? = some w → ps[i]? = some g → Shr X.K H1 (fun _ => True) (pr g) w := fun i w g g1 g2 => by
    obtain ⟨w', g3, g4⟩ := r.get (i := i) (t := pr g) (by rw [List.getElem?_map, g2]; rfl)
    rw [g1] at g3
    cases g3
    exact g4
  refine ⟨a, xs, ps, rfl, q.sq, lx.symm, fun i w g g1 g2 => ?_, fun zs p' hp hso hn => ?_⟩
  · obtain ⟨t, vs2, rfl, q2, r2⟩ := shr_tup (item i w g g1 g2)
    have e : vs2 = [.int g.1, .int g.2] := Shrs.ints (is := [g.1, g.2]) r2
    subst e
    exact ⟨t, rfl, q2⟩
  · have mem : ∀ z ∈ zs, Shr X.K H1 (fun _ => True) (pr z.2) z.1 := fun z hz => by
      obtain ⟨i, hi⟩ := List.mem_iff_getElem?.mp (hp.mem_iff.mp hz)
      obtain ⟨g1, g2⟩ := List.getElem?_zip_eq_some.mp hi
      exact item i z.1 z.2 g1 g2
    have shs : ∀ zs : List (V × (Int × Int)), (∀ z ∈ zs, Shr X.K H1 (fun _ => True) (pr z.2) z.1) → Shrs X.K H1 (fun _ => True) ((zs.map (·.2)).map pr) (zs.map (·.1)) := by
      intro zs
      induction zs with
      | nil => exact fun _ => .nil
      | cons z zs ih => exact fun h => Shrs.cons (h z List.mem_cons_self) (ih fun y hy => h y (List.mem_cons_of_mem _ hy))
    have sh := shs zs mem
    have hsm : Same H1 (upd H1 p' (.lst (zs.map (·.1)))) := Same.new hn (by first | exact nt_lst | exact nt_tup | exact nt_dK | exact nt_dT | exact nt_xd)
    have sh2 := Owns.keep (S' := fun _ => True) (fun _ z => z) sh (.same hsm)
    obtain ⟨S, rs, s⟩ := s1.pop
    have perm : (zs.map (·.2)).Perm ps := by
      have z := hp.map Prod.snd
      rwa [List.map_snd_zip (by omega)] at z
    exact hq 1 _ ρ' _ _ _ (hR _ perm hso) ⟨S, rs, s.pushNew (kd := .lst) hn rfl ((Owns.flat0 sh2 (pr_flat _)).2 0 S)⟩
end
theorem ltU {k : Nat} {A : Around} (hr : Room k A) : A.units < cLine := by have := hr.un; omega
section
variable {X : Cx} {a b : Expr} {pos : Pos} {wa wb : List Ent → (T → Prop) → Prop}
/-- a new list, two joined -/
def vCat (wa : List Ent → (T → Prop) → Prop) (wb : List Ent → (T → Prop) → Prop) : List Ent → (Nat → T → List Ent → Prop) → Prop := fun ρ R => wa ρ fun t => wb ρ fun u => gCat t u fun z => match z with | .nd .lst ts => T.flats ts = true ∧ R 1 (.lst ts) ρ | _ => False
theorem tv_cat (ha : TPE X a wa) (hb : TPE X b wb) : TVE X (.BinOp a .Add b pos) (vCat wa wb) := by
  obtain ⟨ta, pa, ka⟩ := ha.ok
  obtain ⟨tb, pb, kb⟩ := hb.ok
  refine tv_new (u := fun ρ R => wa ρ fun t => wb ρ fun u => gCat t u fun z => match z with | .nd .lst ts => R ts | _ => False) (pe_op op_cat pa pb) fun S ρ σ H Q R hr hw hq => ?_
  refine ka S ρ σ H _ _ hr hw fun t v H1 h1 s1 x1 => ?_
  refine kb (fresh S H) ρ σ H1 _ _ (hr.same s1) h1 fun u v2 H2 h2 s2 x2 => ?_
  cases t using T.cs <;> first | exact h2.elim | skip
  cases u using T.cs <;> first | exact h2.elim | skip
  obtain ⟨a0, vs, rfl, q, r⟩ := shr_lst (x1.keep (fun _ z => z) (.same s2))
  obtain ⟨b0, ws, rfl, q', r2⟩ := shr_lst (shr_dn x2 s1)
  obtain ⟨g1, g2⟩ := h2
  exact ⟨a0, b0, vs, ws, rfl, rfl, q.1, q'.1, by rw [← r.length, ← r2.length]; exact Nat.le_trans g1 million, fun p hp => hq _ _ H2 g2 (s1.trans s2) (Shrs.append r r2) p hp⟩
variable {va vb : List Ent → (Nat → T → List Ent → Prop) → Prop}
/-- .. of values held -/
def vCatV (va vb : List Ent → (Nat → T → List Ent → Prop) → Prop) : List Ent → (Nat → T → List Ent → Prop) → Prop := fun ρ R => va ρ fun _ t ρ1 => vb ρ1 fun _ u ρ2 => gCat t u fun z => match z with | .nd .lst ts => T.flats ts = true ∧ R 1 (.lst ts) ρ2 | _ => False
theorem tv_catV (ha : TVE X a va) (hb : TVE X b vb) : TVE X (.BinOp a .Add b pos) (vCatV va vb) := by
  obtain ⟨ta, pa, ka⟩ := ha.ok
  obtain ⟨tb, pb, kb⟩ := hb.ok
  refine ⟨⟨_, pe_op op_cat pa pb, fun f τ ρ σ H Q R hs hw hq => ?_⟩⟩
  refine ka f τ ρ σ H _ _ hs hw fun n t ρ1 v1 F1 H1 h1 s1 => ?_
  refine kb f (τ ++ [tmp n t v1 F1]) ρ1 σ H1 _ _ s1 h1 fun m u ρ2 v2 F2 H2 h2 s2 => ?_
  cases t using T.cs <;> first | exact h2.elim | skip
  cases u using T.cs <;> first | exact h2.elim | skip
  obtain ⟨a0, vs, rfl, q, r⟩ := shr_lst s2.pop.last2
  obtain ⟨b0, ws, rfl, q', r'⟩ := shr_lst s2.last2
  obtain ⟨g1, g2, g3⟩ := h2
  refine ⟨a0, b0, vs, ws, rfl, rfl, q.1, q'.1, by rw [← r.length, ← r'.length]; exact Nat.le_trans g1 million, fun p hp => ?_⟩
  obtain ⟨S, rs, s⟩ := s2.pop.pop
  have hsm : Same H2 (upd H2 p (.lst (vs ++ ws))) := Same.new hp (by first | exact nt_lst | exact nt_tup | exact nt_dK | exact nt_dT | exact nt_xd)
  have sh := Owns.keep (S' := fun _ => True) (fun _ z => z) (Shrs.append r r') (.same hsm)
  exact hq 1 _ ρ2 _ _ _ g3 ⟨S, rs, s.pushNew (kd := .lst) hp rfl ((Owns.flat0 sh g2).2 0 S)⟩
end
section
variable {X : Cx} {W : WX} {st : Stmt} {sts : List Stmt} {u1 u2 : TEnds → List Ent → Prop}
/-- a statement, told by what holds behind it -/
def uMid (u1 u2 : TEnds → List Ent → Prop) : TEnds → List Ent → Prop := fun De ρ => ∃ mid : List Ent → Prop, u1 { De with nx := mid } ρ ∧ ∀ ρ', mid ρ' → u2 De ρ'
theorem ts_consM (h1 : TS1 X W st u1) (h2 : TSs X W sts u2) : TSs X W (st :: sts) (uMid u1 u2) := by
  obtain ⟨t1, p1, k1⟩ := h1.ok
  obtain ⟨t2, p2, k2⟩ := h2.ok
  refine ⟨⟨_, pss_cons p1 p2, fun f τ ρ σ H De D hs hl hw => ?_⟩⟩
  obtain ⟨mid, hw1, hw2⟩ := hw
  exact k1 f τ ρ σ H { De with nx := mid } _ hs ⟨fun ρ σ H h s => k2 f τ ρ σ H De D s hl (hw2 ρ h), hl.rt, hl.bk, hl.ct, hl.xc⟩ hw1
end
end TL
set_option Elab.async false
set_option linter.all false
set_option maxRecDepth 100000
namespace TL
open PySem PySem.Spec PyProof.Rows L2
/-! ### a dict that is locked while a loop walks it -/
def isD : HO → Prop
  | .dK _ => True
  | .dT _ => True
  | _ => False
theorem NK.is.lkD {k : NK} {o : HO} {vs : List V} (h : k.is o vs) (hd : isD o) : k.lk = true := by
  cases k with
  | lst =>
    obtain rfl : o = .lst vs := h
    exact hd.elim
  | dK ks => rfl
  | dT ks => rfl
  | ins C ns =>
    obtain ⟨_, dx, rfl⟩ := h
    exact hd.elim
/-- what a change of the heap keeps of trees -/
structure Kq (K : PySem.W.Frag) (H H' : Hp) (S S' : Addr → Prop) (F : List Addr) : Prop where
  sqN : ∀ k a vs, SqN H S k a vs → SqN H' S' k a vs
  sqT : ∀ a vs, SqT K H a vs → SqT K H' a vs
  sqF : ∀ a vs, SqF K H a vs → SqF K H' a vs
  tup : ∀ a xs, H a = some (.tup xs) → H' a = some (.tup xs)
  own : ∀ a ∈ F, ∀ o, H a = some o → H' a = some o
  xd : ∀ a fs, H a = some (.xd fs) → S a → H' a = some (.xd fs) ∧ S' a
  ext : ∀ a φ, H a = some (.ext φ) → H' a = some (.ext φ)
section
variable {K : PySem.W.Frag} {H H' : Hp} {S S' : Addr → Prop} {d : Addr} {od : Obj} {u : HO}
theorem Kq.sub {F G : List Addr} (k : Kq K H H' S S' F) (h : ∀ a ∈ G, a ∈ F) : Kq K H H' S S' G := ⟨k.sqN, k.sqT, k.sqF, k.tup, fun a m => k.own a (h a m), k.xd, k.ext⟩
mutual
theorem Own.kq : ∀ {t : T} {n : Nat} {v : V} {F : List Addr}, Own K H S n t v F → Kq K H H' S S' F → Own K H' S' n t v F
  | .non, _, _, _, h, _ => by cases h; exact .non
  | .bl _, _, _, _, h, _ => by cases h; exact .bl _
  | .int _, _, _, _, h, _ => by cases h; exact .int _
  | .str _, _, _, _, h, _ => by cases h; exact .str _
  | .scr _, _, _, _, h, k => by
    cases h with
    | scr q => exact .scr (k.sqF _ _ q)
  | .tup ts, _, _, _, h, k => by
    cases h with
    | tupf q f r => exact .tupf (k.tup _ _ q) f (Owns.kq r k)
    | tup0 q r => exact .tup0 (k.tup _ _ q) (Owns.kq r k)
    | tup q r => exact .tup (k.tup _ _ q) (Owns.kq r k)
  | .ctp ts, _, _, _, h, k => by
    cases h with
    | ctp q f r => exact .ctp (k.sqT _ _ q) f (Owns.kq r k)
  | .opq _ _, _, _, _, h, k => by
    cases h with
    | opq _ q => exact .opq _ (q.keep k.ext)
  | .exc _ _ _ _, _, _, _, h, k => by
    cases h with
    | exc e s => exact .exc (k.xd _ _ e s).1 (k.xd _ _ e s).2
  | .nd _ ts, _, _, _, h, k => by
    cases h with
    | snd q r => exact .snd (k.sqN _ _ _ q) (Owns.kq r k)
    | nd q i r => exact .nd (k.own _ List.mem_cons_self _ q) i (Owns.kq r (k.sub fun a m => List.mem_cons_of_mem _ m))
theorem Owns.kq : ∀ {ts : List T} {n : Nat} {vs : List V} {F : List Addr}, Owns K H S n ts vs F → Kq K H H' S S' F → Owns K H' S' n ts vs F
  | [], _, _, _, h, _ => by cases h; exact .nil
  | t :: ts, _, _, _, h, k => by
    cases h with
    | cons a r => exact .cons (Own.kq a (k.sub fun b m => List.mem_append_left _ m)) (Owns.kq r (k.sub fun b m => List.mem_append_right _ m))
end
theorem kq_lock {F : List Addr} (hd : H d = some u) (iu : isD u) (hF : d ∉ F) : Kq K H (upd H d (.frz od u)) S S F where
  sqN := fun k a vs ⟨o, i, h⟩ => by
    by_cases e : a = d
    · subst e
      rcases h with ⟨h, s⟩ | ⟨l, ob, h⟩
      · rw [hd] at h
        cases h
        exact ⟨_, i, .inr ⟨i.lkD iu, od, upd_same⟩⟩
      · rw [hd] at h
        cases h
        exact iu.elim
    · rcases h with ⟨h, s⟩ | ⟨l, ob, h⟩
      · exact ⟨_, i, .inl ⟨by rw [upd_ne e]; exact h, s⟩⟩
      · exact ⟨_, i, .inr ⟨l, ob, by rw [upd_ne e]; exact h⟩⟩
  sqT := fun a vs h => by
    rcases h with (h | ⟨o, h⟩) | h
    · exact .inl (.inl (by rw [upd_ne (fun z => by rw [z, hd] at h; cases h; exact iu)]; exact h))
    · exact .inl (.inr ⟨o, by rw [upd_ne (fun z => by rw [z, hd] at h; cases h; exact iu)]; exact h⟩)
    · exact .inr h
  sqF := fun a vs h => by
    rcases h with ⟨o, h⟩ | h
    · exact .inl ⟨o, by rw [upd_ne (fun z => by rw [z, hd] at h; cases h; exact iu)]; exact h⟩
    · exact .inr h
  tup := fun a xs h => by rw [upd_ne (fun z => by rw [z, hd] at h; cases h; exact iu)]; exact h
  own := fun a m o h => by rw [upd_ne (fun z => hF (by rw [← z]; exact m))]; exact h
  xd := fun a fs h s => ⟨by rw [upd_ne (fun z => by rw [z, hd] at h; cases h; exact iu)]; exact h, s⟩
  ext := fun a φ h => by rw [upd_ne (fun z => by rw [z, hd] at h; cases h; exact iu)]; exact h
theorem kq_unlock {F : List Addr} (hd : H d = some (.frz od u)) (iu : isD u) (hF : d ∉ F) : Kq K H (upd H d u) S (fun a => S a ∨ a = d) F where
  sqN := fun k a vs ⟨o, i, h⟩ => by
    by_cases e : a = d
    · subst e
      rcases h with ⟨h, s⟩ | ⟨l, ob, h⟩
      · rw [hd] at h
        cases h
        exact absurd rfl i.nfrz
      · rw [hd] at h
        cases h
        exact ⟨_, i, .inl ⟨upd_same, .inr rfl⟩⟩
    · rcases h with ⟨h, s⟩ | ⟨l, ob, h⟩
      · exact ⟨_, i, .inl ⟨by rw [upd_ne e]; exact h, .inl s⟩⟩
      · exact ⟨_, i, .inr ⟨l, ob, by rw [upd_ne e]; exact h⟩⟩
  sqT := fun a vs h => by
    rcases h with (h | ⟨o, h⟩) | h
    · exact .inl (.inl (by rw [upd_ne (fun z => by rw [z, hd] at h; cases h)]; exact h))
    · exact .inl (.inr ⟨o, by rw [upd_ne (fun z => by rw [z, hd] at h; cases h; exact iu)]; exact h⟩)
    · exact .inr h
  sqF := fun a vs h => by
    rcases h with ⟨o, h⟩ | h
    · exact .inl ⟨o, by rw [upd_ne (fun z => by rw [z, hd] at h; cases h; exact iu)]; exact h⟩
    · exact .inr h
  tup := fun a xs h => by rw [upd_ne (fun z => by rw [z, hd] at h; cases h)]; exact h
  own := fun a m o h => by rw [upd_ne (fun z => hF (by rw [← z]; exact m))]; exact h
  xd := fun a fs h s => ⟨by rw [upd_ne (fun z => by rw [z, hd] at h; cases h)]; exact h, .inl s⟩
  ext := fun a φ h => by rw [upd_ne (fun z => by rw [z, hd] at h; cases h)]; exact h
theorem SlotR.kq {e : Ent} {o : Option V} {F : List Addr} (h : SlotR K H S e o F) (k : Kq K H H' S S' F) (kr : Kq K H H' (fun _ => True) (fun _ => True) []) : SlotR K H' S' e o F := by
  cases e with
  | no => exact h
  | ow n u => obtain ⟨v, e, q⟩ := h; exact ⟨v, e, q.kq k⟩
  | io n u => obtain ⟨v, e, q⟩ := h; exact ⟨v, e, q.kq k⟩
  | ro u => obtain ⟨e, v, e2, q⟩ := h; exact ⟨e, v, e2, q.kq kr⟩
  | al j i u => exact h
end
theorem isD.nt {u : HO} (h : isD u) : NTbl u := by cases u <;> first | exact h.elim | exact nt_dK | exact nt_dT
/-- the frame while the dict at d is locked -/
def lockF (f : Fm) (d : Addr) (od : Obj) (u : HO) : Fm := ⟨fun a => f.S0 a ∨ a = d, upd f.H0 d (.frz od u), f.W.filter fun a => decide (a ≠ d), f.v0⟩
section
variable {K : PySem.W.Frag} {f : Fm} {S : Addr → Prop} {H : Hp} {τ rs : List Root} {ρ : List Ent} {σ : St} {d : Addr} {od : Obj} {u : HO}
theorem Good.nin (G : Good K f S rs H) (hS : S d) {m : Nat} {r : Root} (h : rs[m]? = some r) : d ∉ r.F := fun z => ((G.slot m r h).2.2 d z).1 hS
theorem Good.lock (G : Good K f S rs H) (hd : H d = some u) (iu : isD u) (hS : S d) : Good K (lockF f d od u) S rs (upd H d (.frz od u)) where
  tb := G.tb.upd nt_frz fun u' e => by rw [hd] at e; cases e; exact isD.nt iu
  slot := fun m r e => by
    obtain ⟨a, b, c⟩ := G.slot m r e
    have nd := G.nin hS e
    refine ⟨a.kq (kq_lock hd iu nd) (kq_lock hd iu (by simp)), b, fun x hx => ⟨(c x hx).1, ?_⟩⟩
    have ne : x ≠ d := fun z => nd (z ▸ hx)
    rcases (c x hx).2 with q | q
    · exact .inl (by show upd f.H0 d _ x = none; rw [upd_ne ne]; exact q)
    · exact .inr (List.mem_filter.mpr ⟨q, by simpa using ne⟩)
  dj := G.dj
  trk := fun a h => by
    by_cases e : a = d
    · rw [e, upd_same]; exact fun z => nomatch z
    · rw [upd_ne e]; exact G.trk a h
  fr := fun a o h1 h2 => by
    by_cases e : a = d
    · subst e
      have h1 : upd f.H0 a (.frz od u) a = some o := h1
      rw [upd_same] at h1 ⊢
      exact .inl h1
    · have h1 : upd f.H0 d (.frz od u) a = some o := h1
      rw [upd_ne e] at h1 ⊢
      exact G.fr a o h1 fun z => h2 (List.mem_filter.mpr ⟨z, by simpa using e⟩)
  src := fun a h => by
    by_cases e : a = d
    · exact .inl (.inr e)
    · rcases G.src a h with q | q | q
      · exact .inl (.inl q)
      · exact .inr (.inl (by show upd f.H0 d _ a = none; rw [upd_ne e]; exact q))
      · exact .inr (.inr (List.mem_filter.mpr ⟨q, by simpa using e⟩))
theorem Good.locked (G : Good K (lockF f d od u) S rs H) : H d = some (.frz od u) := (G.fr d _ upd_same fun z => by
  have := (List.mem_filter.mp z).2
  simp at this).nt nt_frz.1
theorem Good.ninL (G : Good K (lockF f d od u) S rs H) {m : Nat} {r : Root} (h : rs[m]? = some r) : d ∉ r.F := fun z => by
  rcases ((G.slot m r h).2.2 d z).2 with q | q
  · have q : upd f.H0 d (.frz od u) d = none := q
    rw [upd_same] at q
    cases q
  · have := (List.mem_filter.mp q).2
    simp at this
theorem Good.unlock (G : Good K (lockF f d od u) S rs H) (iu : isD u) (sd : f.S0 d ∨ f.H0 d = none ∨ d ∈ f.W) (fd : ∀ o, f.H0 d = some o → d ∉ f.W → o = u) : Good K f (fun a => S a ∨ a = d) rs (upd H d u) where
  tb := G.tb.upd (isD.nt iu) fun u' e => by rw [G.locked] at e; cases e; exact nt_frz
  slot := fun m r e => by
    obtain ⟨a, b, c⟩ := G.slot m r e
    have nd := G.ninL e
    refine ⟨a.kq (kq_unlock G.locked iu nd) ?_, b, fun x hx => ?_⟩
    · have z := kq_unlock (K := K) (S := fun _ => True) (F := []) G.locked iu (by simp)
      exact ⟨fun k a vs h => by
        obtain ⟨o, i, q | q⟩ := z.sqN k a vs h
        · exact ⟨o, i, .inl ⟨q.1, trivial⟩⟩
        · exact ⟨o, i, .inr q⟩, z.sqT, z.sqF, z.tup, z.own, fun a fs h s => ⟨(z.xd a fs h s).1, trivial⟩, z.ext⟩
    · have ne : x ≠ d := fun z => nd (z ▸ hx)
      refine ⟨fun z => z.elim (c x hx).1 ne, ?_⟩
      rcases (c x hx).2 with q | q
      · have q : upd f.H0 d (.frz od u) x = none := q
        rw [upd_ne ne] at q
        exact .inl q
      · exact .inr (List.mem_filter.mp q).1
  dj := G.dj
  trk := fun a h => by
    by_cases e : a = d
    · rw [e, upd_same]; exact fun z => nomatch z
    · rw [upd_ne e]; exact G.trk a (h.resolve_right e)
  fr := fun a o h1 h2 => by
    by_cases e : a = d
    · subst e
      rw [upd_same, fd o h1 h2]
      exact .inl rfl
    · rw [upd_ne e]
      exact G.fr a o (by show upd f.H0 d _ a = some o; rw [upd_ne e]; exact h1) fun z => h2 (List.mem_filter.mp z).1
  src := fun a h => by
    by_cases e : a = d
    · rw [e]; exact sd
    · rcases G.src a (h.resolve_right e) with q | q | q
      · exact .inl (q.resolve_right e)
      · have q : upd f.H0 d (.frz od u) a = none := q
        rw [upd_ne e] at q
        exact .inr (.inl q)
      · exact .inr (.inr (List.mem_filter.mp q).1)
theorem way1 {n i : Nat} {U t : T} {v0 v : V} {F : List Addr} {o : HO} (h : Own K H S (n + 1) U v0 F) (nd : d ∉ F) (nt : ∀ xs, H d ≠ some (.tup xs)) (w : Way H U v0 [i] t v) : Way (upd H d o) U v0 [i] t v := by
  cases w with
  | nd h1 h2 h3 h4 w =>
    cases w
    cases h with
    | nd q i r => exact .nd (by rw [upd_ne (fun z => nd (by rw [← z]; exact List.mem_cons_self))]; exact h1) h2 h3 h4 .nil
  | tup h1 h3 h4 w =>
    cases w
    exact .tup (by rw [upd_ne (fun z => nt _ (by rw [← z]; exact h1))]; exact h1) h3 h4 .nil
theorem StaW.lock (s : StaW K f τ ρ σ H S rs) (hd : H d = some u) (iu : isD u) (hS : S d) : StaW K (lockF f d od u) τ ρ σ (upd H d (.frz od u)) S rs where
  e := s.e
  o := s.o
  good := s.good.lock hd iu hS
  al := fun k j i t h => by
    obtain ⟨r, n, U, v0, v, Fi, a1, a2, a3, a4, a5, a6, a7⟩ := (s.al k j i t h).ex
    have hr : (rs ++ τ)[j]? = some r := by rw [List.getElem?_append_left (List.getElem?_eq_some_iff.mp a1).1]; exact a1
    have nd := s.good.nin hS hr
    obtain ⟨v1, e1, ow⟩ := (s.good.slot j r hr).1.own a2
    rw [a3] at e1
    cases e1
    exact ⟨⟨r, n, U, v0, v, Fi, a1, a2, a3, a4, way1 ow nd (fun xs z => by rw [hd] at z; cases z; exact iu) a5, a6.kq (kq_lock hd iu fun z => nd (a7 d z)), a7⟩⟩
  io := s.io
  tm := s.tm
theorem StaW.unlock (s : StaW K (lockF f d od u) τ ρ σ H S rs) (iu : isD u) (sd : f.S0 d ∨ f.H0 d = none ∨ d ∈ f.W) (fd : ∀ o, f.H0 d = some o → d ∉ f.W → o = u) : StaW K f τ ρ σ (upd H d u) (fun a => S a ∨ a = d) rs where
  e := s.e
  o := s.o
  good := s.good.unlock iu sd fd
  al := fun k j i t h => by
    obtain ⟨r, n, U, v0, v, Fi, a1, a2, a3, a4, a5, a6, a7⟩ := (s.al k j i t h).ex
    have hr : (rs ++ τ)[j]? = some r := by rw [List.getElem?_append_left (List.getElem?_eq_some_iff.mp a1).1]; exact a1
    have nd := s.good.ninL hr
    have hd := s.good.locked
    obtain ⟨v1, e1, ow⟩ := (s.good.slot j r hr).1.own a2
    rw [a3] at e1
    cases e1
    exact ⟨⟨r, n, U, v0, v, Fi, a1, a2, a3, a4, way1 ow nd (fun xs z => by rw [hd] at z; cases z) a5, a6.kq (kq_unlock hd iu fun z => nd (a7 d z)), a7⟩⟩
  io := s.io
  tm := s.tm
/-- what is known of a shared dict's place -/
theorem StaW.place (s : StaW K f τ ρ σ H S rs) (hd : H d = some u) (hS : S d) (iu : NTbl u) : (f.S0 d ∨ f.H0 d = none ∨ d ∈ f.W) ∧ ∀ o, f.H0 d = some o → d ∉ f.W → o = u :=
  ⟨s.good.src d hS, fun o h1 h2 => by
    have z := s.good.fr d o h1 h2
    rw [hd] at z
    rcases z with z | ⟨_, ps, _, z⟩
    · exact (Option.some.inj z).symm
    · exact absurd (Option.some.inj z) (iu.1 ps)⟩
end
end TL
set_option Elab.async false
set_option linter.all false
set_option maxRecDepth 100000
namespace TL
open PySem PySem.Spec PyProof.Rows L2
/-! ### a loop over a dict -/
def NoFrz (X : Cx) (d : Addr) : Prop := ∀ o' u', X.H_0 d ≠ some (.frz o' u')
/-- .. whose value is locked, if it is a dict -/
def teL (X : Cx) (td : TE) : TE := fun σ H Q => td σ H fun x H1 => Q x H1 ∨ ∃ d u, x = .ref d ∧ H1 d = some u ∧ Mut (some u) ∧ ∀ o, NoFrz X d → Q x (upd H1 d (.frz o u))
section
variable {X : Cx} {e : Expr} {td : TE} {st : Stmt} {t : TS}
theorem pe_L (he : PE X e td) : PE X e (teL X td) := by
  refine ⟨fun pins s σ H Q I h => ?_⟩
  refine thn (he.run pins s σ H _ I h) fun u s1 ⟨x, H1, I1, rx, q⟩ => ?_
  rcases q with q | ⟨d, u', ex, hd, mu, q⟩
  · exact ⟨x, H1, I1, rx, q⟩
  · obtain ⟨od, I2⟩ := I1.lock hd mu
    exact ⟨x, _, I2, rx, q od (I1.nofrz hd mu)⟩
/-- true here, or when something is unlocked -/
def Unl (X : Cx) (Q : Hp → Prop) (H : Hp) : Prop := Q H ∨ ∃ d od u, H d = some (.frz od u) ∧ NoFrz X d ∧ Q (upd H d u)
def tUnl (X : Cx) (t : TS) : TS := fun D σ H => t ⟨fun σ' H' => Unl X (D.nx σ') H', fun v H' => Unl X (D.rt v) H', fun σ' H' => Unl X (D.bk σ') H', fun σ' H' => Unl X (D.ct σ') H'⟩ σ H
theorem inv_unl {pins : List (Addr × Obj)} {σ : St} {H : Hp} {s : Shared} {Q : Hp → Prop} (I : Inv X pins σ H s) (h : Unl X Q H) : ∃ H', Inv X pins σ H' s ∧ Q H' := by
  rcases h with h | ⟨d, od, u, hd, nf, h⟩
  · exact ⟨H, I, h⟩
  · exact ⟨_, I.unlock hd nf, h⟩
theorem ps_unl (h : PS X st t) : PS X st (tUnl X t) := by
  refine ⟨fun pins s σ H D I hw => ?_⟩
  refine thn (h.run pins s σ H _ I hw) fun f s1 q => ?_
  cases f with
  | next => obtain ⟨σ', H', I2, q⟩ := q; obtain ⟨H2, I3, q⟩ := inv_unl I2 q; exact ⟨σ', H2, I3, q⟩
  | brk => obtain ⟨σ', H', I2, q⟩ := q; obtain ⟨H2, I3, q⟩ := inv_unl I2 q; exact ⟨σ', H2, I3, q⟩
  | cont => obtain ⟨σ', H', I2, q⟩ := q; obtain ⟨H2, I3, q⟩ := inv_unl I2 q; exact ⟨σ', H2, I3, q⟩
  | ret v => obtain ⟨x, σ', H', I2, r, q⟩ := q; obtain ⟨H2, I3, q⟩ := inv_unl I2 q; exact ⟨x, σ', H2, I3, r, q⟩
def tUnlE (X : Cx) (t : TE) : TE := fun σ H Q => t σ H fun v H' => Unl X (Q v) H'
theorem pe_unl (h : PE X e td) : PE X e (tUnlE X td) := by
  refine ⟨fun pins s σ H Q I hw => ?_⟩
  refine thn (h.run pins s σ H _ I hw) fun v s1 ⟨x, H1, I1, r, q⟩ => ?_
  obtain ⟨H2, I3, q⟩ := inv_unl I1 q
  exact ⟨x, H2, I3, r, q⟩
end
/-- the frame f' is f with the dict at d locked -/
structure Lkd (X : Cx) (f f' : Fm) (d : Addr) (od : Obj) (u : HO) : Prop where
  at' : ∀ τ ρ σ H, Sta X.K f' τ ρ σ H → H d = some (.frz od u)
  back : ∀ τ ρ σ H (Q : Hp → Prop), Sta X.K f' τ ρ σ H → (∀ H2, Sta X.K f τ ρ σ H2 → Q H2) → Unl X Q H
theorem Sta.locked {K : PySem.W.Frag} {f : Fm} {τ : List Root} {ρ : List Ent} {σ : St} {H : Hp} {d : Addr} {od : Obj} {u : HO} (s : Sta K (lockF f d od u) τ ρ σ H) : H d = some (.frz od u) := let ⟨_, _, s⟩ := s; s.good.locked
/-- locked anew -/
theorem lkd_new {X : Cx} {f : Fm} {τ rs : List Root} {ρ : List Ent} {σ : St} {H : Hp} {S : Addr → Prop} {d : Addr} {u : HO} (s : StaW X.K f τ ρ σ H S rs) (hd : H d = some u) (iu : isD u) (hS : S d) (od : Obj) (nf : NoFrz X d) :
    Sta X.K (lockF f d od u) τ ρ σ (upd H d (.frz od u)) ∧ Lkd X f (lockF f d od u) d od u := by
  obtain ⟨p1, p2⟩ := s.place hd hS (isD.nt iu)
  refine ⟨⟨S, rs, s.lock hd iu hS⟩, ⟨fun τ ρ σ H s => s.locked, fun τ ρ σ H Q s h => ?_⟩⟩
  have at1 := s.locked
  obtain ⟨S2, rs2, s⟩ := s
  exact .inr ⟨d, od, u, at1, nf, h _ ⟨_, rs2, s.unlock iu p1 p2⟩⟩
/-- .. already -/
def lockG (f : Fm) (d : Addr) (o : HO) : Fm := ⟨fun a => f.S0 a ∧ a ≠ d, upd f.H0 d o, f.W.filter fun a => decide (a ≠ d), f.v0⟩
theorem kq_drop {K : PySem.W.Frag} {H : Hp} {S : Addr → Prop} {F : List Addr} {d : Addr} {od : Obj} {u : HO} (hd : H d = some (.frz od u)) : Kq K H H S (fun a => S a ∧ a ≠ d) F where
  sqN := fun k a vs ⟨o, i, h⟩ => by
    rcases h with ⟨h, s⟩ | h
    · exact ⟨_, i, .inl ⟨h, s, fun e => by rw [e, hd] at h; cases h; exact i.nfrz rfl⟩⟩
    · exact ⟨_, i, .inr h⟩
  sqT := fun _ _ h => h
  sqF := fun _ _ h => h
  tup := fun _ _ h => h
  own := fun _ _ _ h => h
  xd := fun a fs h s => ⟨h, s, fun e => by rw [e, hd] at h; cases h⟩
  ext := fun _ _ h => h
theorem kq_id {K : PySem.W.Frag} {H : Hp} {S : Addr → Prop} {F : List Addr} : Kq K H H S S F := ⟨fun _ _ _ h => h, fun _ _ h => h, fun _ _ h => h, fun _ _ h => h, fun _ _ _ h => h, fun _ _ h s => ⟨h, s⟩, fun _ _ h => h⟩
section
variable {K : PySem.W.Frag} {f : Fm} {S : Addr → Prop} {H : Hp} {τ rs : List Root} {ρ : List Ent} {σ : St} {d : Addr} {od : Obj} {u o : HO}
theorem SlotR.nfrz {e : Ent} {v : Option V} {F : List Addr} (h : SlotR K H S e v F) (hd : H d = some (.frz od u)) : d ∉ F := fun m => by
  cases e with
  | no => rw [show F = [] from h] at m; cases m
  | ow n t => obtain ⟨v, _, q⟩ := h; exact (q.nt d m _ hd).2 _ _ rfl
  | io n t => obtain ⟨v, _, q⟩ := h; exact (q.nt d m _ hd).2 _ _ rfl
  | ro t => rw [h.1] at m; cases m
  | al j i t => rw [h.1] at m; cases m
theorem Good.lockG (G : Good K f S rs H) (hd : H d = some (.frz od u)) : Good K (lockG f d (.frz od u)) (fun a => S a ∧ a ≠ d) rs H where
  tb := G.tb
  slot := fun m r e => by
    obtain ⟨a, b, c⟩ := G.slot m r e
    have nd := a.nfrz hd
    refine ⟨a.kq (kq_drop hd) kq_id, b, fun x hx => ⟨fun z => (c x hx).1 z.1, ?_⟩⟩
    have ne : x ≠ d := fun z => nd (by rw [← z]; exact hx)
    rcases (c x hx).2 with q | q
    · exact .inl (by show upd f.H0 d _ x = none; rw [upd_ne ne]; exact q)
    · exact .inr (List.mem_filter.mpr ⟨q, by simpa using ne⟩)
  dj := G.dj
  trk := fun a h => G.trk a h.1
  fr := fun a o h1 h2 => by
    by_cases e : a = d
    · subst e
      have h1 : upd f.H0 a (.frz od u) a = some o := h1
      rw [upd_same] at h1
      exact .inl (hd.trans h1)
    · have h1 : upd f.H0 d (.frz od u) a = some o := h1
      rw [upd_ne e] at h1
      exact G.fr a o h1 fun z => h2 (List.mem_filter.mpr ⟨z, by simpa using e⟩)
  src := fun a h => by
    rcases G.src a h.1 with q | q | q
    · exact .inl ⟨q, h.2⟩
    · exact .inr (.inl (by show upd f.H0 d _ a = none; rw [upd_ne h.2]; exact q))
    · exact .inr (.inr (List.mem_filter.mpr ⟨q, by simpa using h.2⟩))
theorem Good.lockedG (G : Good K (TL.lockG f d o) S rs H) (no : NTbl o := by exact nt_frz) : H d = some o := (G.fr d _ upd_same fun z => by
  have := (List.mem_filter.mp z).2
  simp at this).nt no.1
theorem Good.unlockG (G : Good K (TL.lockG f d (.frz od u)) S rs H) (fd : ∀ o, f.H0 d = some o → d ∉ f.W → o = .frz od u) : Good K f S rs H where
  tb := G.tb
  slot := fun m r e => by
    obtain ⟨a, b, c⟩ := G.slot m r e
    have nd := a.nfrz G.lockedG
    refine ⟨a, b, fun x hx => ⟨(c x hx).1, ?_⟩⟩
    have ne : x ≠ d := fun z => nd (by rw [← z]; exact hx)
    rcases (c x hx).2 with q | q
    · have q : upd f.H0 d (.frz od u) x = none := q
      rw [upd_ne ne] at q
      exact .inl q
    · exact .inr (List.mem_filter.mp q).1
  dj := G.dj
  trk := G.trk
  fr := fun a o h1 h2 => by
    by_cases e : a = d
    · subst e
      rw [G.lockedG, fd o h1 h2]
      exact .inl rfl
    · exact G.fr a o (by show upd f.H0 d _ a = some o; rw [upd_ne e]; exact h1) fun z => h2 (List.mem_filter.mp z).1
  src := fun a h => by
    rcases G.src a h with q | q | q
    · exact .inl q.1
    · by_cases e : a = d
      · subst e
        have q : upd f.H0 a (.frz od u) a = none := q
        rw [upd_same] at q
        cases q
      · have q : upd f.H0 d (.frz od u) a = none := q
        rw [upd_ne e] at q
        exact .inr (.inl q)
    · exact .inr (.inr (List.mem_filter.mp q).1)
end
theorem lkd_old {X : Cx} {f : Fm} {τ rs : List Root} {ρ : List Ent} {σ : St} {H : Hp} {S : Addr → Prop} {d : Addr} {od : Obj} {u : HO} (s : StaW X.K f τ ρ σ H S rs) (hd : H d = some (.frz od u)) :
    Sta X.K (lockG f d (.frz od u)) τ ρ σ H ∧ Lkd X f (lockG f d (.frz od u)) d od u := by
  refine ⟨⟨_, rs, s.e, s.o, s.good.lockG hd, fun k j i t h => ?_, s.io, s.tm⟩, ⟨fun τ ρ σ H s => ?_, fun τ ρ σ H2 Q s2 h => .inl (h _ ?_)⟩⟩
  · obtain ⟨r, n, U, v0, v, Fi, a1, a2, a3, a4, a5, a6, a7⟩ := (s.al k j i t h).ex
    exact ⟨⟨r, n, U, v0, v, Fi, a1, a2, a3, a4, a5, a6.kq (kq_drop hd), a7⟩⟩
  · obtain ⟨_, _, s⟩ := s
    exact s.good.lockedG
  · obtain ⟨S2, rs2, s2⟩ := s2
    refine ⟨S2, rs2, s2.e, s2.o, s2.good.unlockG fun o h1 h2 => ?_, s2.al, s2.io, s2.tm⟩
    have z := s.good.fr d o h1 h2
    rw [hd] at z
    rcases z with z | ⟨_, ps, _, z⟩
    · exact (Option.some.inj z).symm
    · cases z
end TL
set_option Elab.async false
set_option linter.all false
set_option maxRecDepth 100000
namespace TL
open PySem PySem.Spec PyProof.Rows L2
/-- a key as a tree -/
def kT : Key → T
  | .inl i => .int i
  | .inr s => .str s
def ktT (ks : List Key) : T := .tup (ks.map kT)
theorem kT_own {K : PySem.W.Frag} {H : Hp} {S : Addr → Prop} (k : Key) : Shr K H S (kT k) (kV k) := by
  cases k with
  | inl i => exact .int i
  | inr s => exact .str s
theorem kTs_own {K : PySem.W.Frag} {H : Hp} {S : Addr → Prop} : ∀ ks : List Key, Shrs K H S (ks.map kT) (ks.map kV)
  | [] => .nil
  | k :: ks => Shrs.cons (kT_own k) (kTs_own ks)
theorem ktT_own {K : PySem.W.Frag} {H : Hp} {S : Addr → Prop} {q : Addr} {ks : List Key} (h : H q = some (.tup (ks.map kV))) : Shr K H S (ktT ks) (.ref q) := .tup0 h (kTs_own ks)
structure ItD (K : PySem.W.Frag) (J : It) (d : Addr) (od : Obj) (u : HO) (t : T) (ts : List T) : Prop where
  goes : ∀ i H, H d = some (.frz od u) → i < ts.length → J.go i H
  stops : ∀ H, H d = some (.frz od u) → J.stop ts.length H
  yields : ∀ i H S x H', i < ts.length → H d = some (.frz od u) → Shr K H S t (.ref d) → J.yld i H x H' → ∃ t', ts[i]? = some t' ∧ Same H H' ∧ Shr K H' (fresh S H) t' x
theorem zip_get {α β : Type} {xs : List α} {ys : List β} {i : Nat} {p : α × β} (h : (xs.zip ys)[i]? = some p) : xs[i]? = some p.1 ∧ ys[i]? = some p.2 := by
  rw [List.getElem?_zip_eq_some] at h
  exact h
theorem zip_at {α β : Type} {xs : List α} {ys : List β} {i : Nat} (hl : xs.length = ys.length) (h : i < xs.length) : i < (xs.zip ys).length := by rw [List.length_zip]; omega
section
variable {K : PySem.W.Frag} {d : Addr} {od : Obj} {vs : List V} {us : List T}
/-- the values of the dict are those of the tree -/
theorem nd_vals {H : Hp} {S : Addr → Prop} {k : NK} {u : HO} (hd : H d = some (.frz od u)) (i : k.is u vs) (h : Shr K H S (.nd k us) (.ref d)) : Shrs K H S us vs := by
  obtain ⟨a, ws, e, ⟨o, j, q⟩, r⟩ := shr_nd h
  cases e
  rcases q with ⟨q, _⟩ | ⟨_, ob, q⟩
  · rw [hd] at q
    cases q
    exact absurd rfl j.nfrz
  · rw [hd] at q
    cases q
    have e := i.inj j
    subst e
    exact r
theorem itd_keys {ks : List Key} (hl : ks.length = vs.length) : ItD K (Itk d od (ks.zip vs)) d od (.dK (ks.zip vs)) (.nd (.dK ks) us) (ks.map kT) where
  goes := fun i H h hi => ⟨h, zip_at hl (by rwa [List.length_map] at hi)⟩
  stops := fun H h => ⟨h, by rw [List.length_map, List.length_zip]; omega⟩
  yields := fun i H S x H' hi h sh y => by
    obtain ⟨rfl, k, v, e, rfl⟩ := y
    refine ⟨kT k, by rw [List.getElem?_map, (zip_get e).1]; rfl, Same.refl _, kT_own k⟩
theorem itd_keysT {ks : List (List Key)} (hl : ks.length = vs.length) : ItD K (Itkt d od (ks.zip vs)) d od (.dT (ks.zip vs)) (.nd (.dT ks) us) (ks.map ktT) where
  goes := fun i H h hi => ⟨h, zip_at hl (by rwa [List.length_map] at hi)⟩
  stops := fun H h => ⟨h, by rw [List.length_map, List.length_zip]; omega⟩
  yields := fun i H S x H' hi h sh y => by
    obtain ⟨rfl, k, v, q, e, rfl, hq⟩ := y
    exact ⟨ktT k, by rw [List.getElem?_map, (zip_get e).1]; rfl, Same.refl _, ktT_own hq⟩
theorem itd_vals {ks : List Key} (hl : ks.length = vs.length) (hn : ks.Nodup) (hu : us.length = vs.length) : ItD K (Itd d od (ks.zip vs)) d od (.dK (ks.zip vs)) (.nd (.dK ks) us) us where
  goes := fun i H h hi => ⟨h, zip_at hl (by omega)⟩
  stops := fun H h => ⟨h, by rw [List.length_zip]; omega⟩
  yields := fun i H S x H' hi h sh y => by
    obtain ⟨rfl, k, e⟩ := y
    have r := nd_vals (k := .dK ks) h ⟨hl, hn, rfl⟩ sh
    obtain ⟨v, e2, q⟩ := r.get (List.getElem?_eq_getElem hi)
    rw [(zip_get e).2] at e2
    cases e2
    exact ⟨_, List.getElem?_eq_getElem hi, Same.refl _, q.mono fun _ => .inl⟩
/-- the pairs of a dict -/
def itmT (ks : List Key) (us : List T) : List T := List.zipWith (fun k t => .tup [kT k, t]) ks us
theorem itmT_get {ks : List Key} {us : List T} {i : Nat} {t : T} : (itmT ks us)[i]? = some t ↔ ∃ k u, ks[i]? = some k ∧ us[i]? = some u ∧ t = .tup [kT k, u] := by
  unfold itmT
  rw [List.getElem?_zipWith]
  cases ks[i]? <;> cases us[i]? <;> simp [eq_comm]
theorem itd_items {ks : List Key} (hl : ks.length = vs.length) (hn : ks.Nodup) (hu : us.length = vs.length) : ItD K (Iti d od (ks.zip vs)) d od (.dK (ks.zip vs)) (.nd (.dK ks) us) (itmT ks us) where
  goes := fun i H h hi => ⟨h, zip_at hl (by unfold itmT at hi; rw [List.length_zipWith] at hi; omega)⟩
  stops := fun H h => ⟨h, by unfold itmT; rw [List.length_zip, List.length_zipWith]; omega⟩
  yields := fun i H S x H' hi h sh y => by
    obtain ⟨T0, k, v, e, rfl, hfree, rfl⟩ := y
    have r := nd_vals (k := .dK ks) h ⟨hl, hn, rfl⟩ sh
    have hi2 : i < us.length := by unfold itmT at hi; rw [List.length_zipWith] at hi; omega
    obtain ⟨v', e2, q⟩ := r.get (List.getElem?_eq_getElem hi2)
    rw [(zip_get e).2] at e2
    cases e2
    obtain ⟨a1, a2⟩ := pair_shr (t := kT k) hfree rfl (kT_own k) q
    exact ⟨_, itmT_get.mpr ⟨k, _, (zip_get e).1, List.getElem?_eq_getElem hi2, rfl⟩, a1, a2⟩
end
section
variable {X : Cx} {W : WX} {tg it e : Expr} {pos apos cpos tpos : Pos} {elts : List Expr} {kk : Nat} {v : List Ent → (Nat → T → List Ent → Prop) → Prop} {hT : T → List Ent → (List Ent → Prop) → Prop} {u : TEnds → List Ent → Prop} {body : List Stmt}
/-- nothing is raised from within -/
def noX (De : TEnds) : TEnds := { De with xc := fun _ _ => False }
theorem ford_core {f f' : Fm} {τ : List Root} {ρ1 : List Ent} {σ : St} {H1 : Hp} {d : Addr} {od : Obj} {ob : HO} {t : T} {ts : List T} {J : It} {js : List Nat} {tg' : TG} {tb : TS} {De : TEnds} {D : Ends}
    (kg : ∀ (f : Fm) (τ : List Root) (ρ : List Ent) (σ : St) (H : Hp) (S : Addr → Prop) (rs : List Root) (t : T) (x : V) (Q : St → Hp → Prop) (R : List Ent → Prop), StaW X.K f τ ρ σ H S rs → Shr X.K H S t x → hT t ρ R → (∀ ρ' σ' rs', R ρ' → Offs js σ σ' → StaW X.K f τ ρ' σ' H S rs' → Q σ' H) → tg' x σ H Q)
    (kb : ∀ (f : Fm) (τ : List Root) (ρ : List Ent) (σ : St) (H : Hp) (De : TEnds) (D : Ends), Sta X.K f τ ρ σ H → Lk X.K f τ De D W → u De ρ → tb D σ H)
    (lk : Lkd X f f' d od ob) (ith : ItD X.K J d od ob t ts) (s1 : Sta X.K f' (τ ++ shRoots [t] [.ref d]) ρ1 σ H1) (hl : Lk X.K f τ De D W) (h2 : forOk hT u (noX De) ts ρ1) :
    ∃ W : Nat → Nat → St → Hp → Prop, (∃ m, W 0 m σ H1) ∧ ∀ i m σ H, W i m σ H → (J.stop i H ∧ Unl X (D.nx σ) H) ∨ (J.go i H ∧ ∃ N : St → Hp → Prop, (∀ σ' H', N σ' H' → ∃ m', m' < m ∧ W (i + 1) m' σ' H') ∧
      ∀ x H', J.yld i H x H' → tg' x σ H' fun σ2 H2 => tb ⟨N, fun v H' => Unl X (D.rt v) H', fun σ' H' => Unl X (D.nx σ') H', N⟩ σ2 H2) := by
  obtain ⟨I, i0, hI, hend⟩ := h2
  have wk : Walk J ts.length (fun H => H d = some (.frz od ob)) (fun i H x H' => J.yld i H x H' ∧ H d = some (.frz od ob)) :=
    ⟨fun i H hi h => ith.goes i H h hi, fun H h => ith.stops H h, fun i H x H' _ h y => ⟨y, h⟩⟩
  refine for_it wk (D := ⟨fun σ H => Unl X (D.nx σ) H, fun v H' => Unl X (D.rt v) H', fun σ' H' => Unl X (D.bk σ') H', fun σ' H' => Unl X (D.ct σ') H'⟩) (fun i σ H => ∃ ρ, I i ρ ∧ Sta X.K f' (τ ++ shRoots [t] [.ref d]) ρ σ H) ⟨ρ1, i0, s1⟩ (fun i σ H _ h => ?_) (fun i x σ H H' hi h y => ?_) fun σ H h => ?_
  · obtain ⟨ρ, _, s⟩ := h
    exact lk.at' _ _ _ _ s
  · obtain ⟨ρ, im, S, rs, s⟩ := h
    have s0 : StaW X.K f' (τ ++ shRoots [t] [.ref d] ++ []) ρ σ H S rs := by rw [List.append_nil]; exact s
    obtain ⟨v', e', shr⟩ := shrs1 (s0.shr rfl)
    cases e'
    obtain ⟨t', e1, sm, x1⟩ := ith.yields i H S x H' hi y.2 shr y.1
    refine kg f' (τ ++ shRoots [t] [.ref d]) ρ σ H' _ rs t' x _ _ (s.grow sm) (shr_grown x1) (hI i t' ρ e1 im) fun ρ' σ' rs' h3 _ s3 => ?_
    refine kb f' (τ ++ shRoots [t] [.ref d]) ρ' σ' H' { noX De with nx := I (i + 1), ct := I (i + 1), bk := (noX De).nx } _ ⟨_, _, s3⟩ ⟨?_, ?_, ?_, ?_, fun x ρ σ cls d H h s e => h.elim⟩ h3
    · exact fun ρ σ H h s => ⟨ρ, h, s⟩
    · exact fun n t ρ σ v F H h s => lk.back _ _ _ _ _ s fun H2 s2 => hl.rt n t ρ σ v F H2 h s2.mid
    · exact fun ρ σ H h s => lk.back _ _ _ _ _ s fun H2 s2 => hl.nx ρ σ H2 h s2.pop
    · exact fun ρ σ H h s => ⟨ρ, h, s⟩
  · obtain ⟨ρ, im, s⟩ := h
    exact lk.back _ _ _ _ _ s fun H2 s2 => hl.nx ρ σ H2 (hend ρ im) s2.pop
/-- for k in d -/
def uForD (v : List Ent → (Nat → T → List Ent → Prop) → Prop) (hT : T → List Ent → (List Ent → Prop) → Prop) (u : TEnds → List Ent → Prop) : TEnds → List Ent → Prop := fun De ρ => v ρ fun _ t ρ1 => match t with
  | .nd (.dK ks) _ => forOk hT u (noX De) (ks.map kT) ρ1
  | .nd (.dT ks) _ => forOk hT u (noX De) (ks.map ktT) ρ1
  | _ => False
/-- .. in d.values(), d.items() -/
def uForV (v : List Ent → (Nat → T → List Ent → Prop) → Prop) (hT : T → List Ent → (List Ent → Prop) → Prop) (u : TEnds → List Ent → Prop) : TEnds → List Ent → Prop := fun De ρ => v ρ fun _ t ρ1 => match t with
  | .nd (.dK _) us => forOk hT u (noX De) us ρ1
  | _ => False
def uForI (v : List Ent → (Nat → T → List Ent → Prop) → Prop) (hT : T → List Ent → (List Ent → Prop) → Prop) (u : TEnds → List Ent → Prop) : TEnds → List Ent → Prop := fun De ρ => v ρ fun _ t ρ1 => match t with
  | .nd (.dK ks) us => forOk hT u (noX De) (itmT ks us) ρ1
  | _ => False
theorem StaW.shr1 {K : PySem.W.Frag} {f : Fm} {τ rs : List Root} {ρ : List Ent} {σ : St} {H : Hp} {S : Addr → Prop} {t : T} {v : V} (s : StaW K f (τ ++ shRoots [t] [v]) ρ σ H S rs) : Shr K H S t v := by
  have s0 : StaW K f (τ ++ shRoots [t] [v] ++ []) ρ σ H S rs := by rw [List.append_nil]; exact s
  obtain ⟨v', e', h⟩ := shrs1 (s0.shr rfl)
  cases e'
  exact h
/-- the shared dict, locked -/
structure LkAt (X : Cx) (f : Fm) (τ : List Root) (k : NK) (us : List T) (ρ : List Ent) (σ : St) (d : Addr) (od : Obj) (o : HO) (vs : List V) (H1 : Hp) : Prop where
  is : k.is o vs
  len : us.length = vs.length
  ex : ∃ f', Lkd X f f' d od o ∧ Sta X.K f' (τ ++ shRoots [.nd k us] [.ref d]) ρ σ H1
  at1 : H1 d = some (.frz od o)
theorem lkd_any {f : Fm} {τ rs : List Root} {ρ : List Ent} {σ : St} {H : Hp} {S : Addr → Prop} {k : NK} {us : List T} {v : V} (s : StaW X.K f (τ ++ shRoots [.nd k us] [v]) ρ σ H S rs) (hk : k.lk = true) :
    ∃ d o vs, v = .ref d ∧ ((∃ od, LkAt X f τ k us ρ σ d od o vs H) ∨ (H d = some o ∧ Mut (some o) ∧ ∀ od, NoFrz X d → LkAt X f τ k us ρ σ d od o vs (upd H d (.frz od o)))) := by
  obtain ⟨d, vs, rfl, ⟨o, i, q⟩, r⟩ := shr_nd s.shr1
  refine ⟨d, o, vs, rfl, ?_⟩
  rcases q with ⟨q, hS⟩ | ⟨_, ob, q⟩
  · have iu : isD o := by
      cases k with
      | dK ks => rw [i.2.2]; trivial
      | dT ks => rw [i.2.2]; trivial
      | lst => cases hk
      | ins C ns => cases hk
    refine .inr ⟨q, ?_, fun od nf => ?_⟩
    · cases o <;> first | trivial | exact iu.elim
    · obtain ⟨a, b⟩ := lkd_new s q iu hS od nf
      exact ⟨i, r.length, ⟨_, b, a⟩, upd_same⟩
  · obtain ⟨a, b⟩ := lkd_old s q
    exact .inl ⟨ob, ⟨i, r.length, ⟨_, b, a⟩, q⟩⟩
theorem ts_forD {js : List Nat} (hp : PassesOwn (model X.prog X.w) X.A X.env X.xe) (hc : X.calm = true) (he : TVE X e v) (hg : TTg X tg js hT) (hb : TSs X W body u) (hs : ∀ x, foldedSetIterable e X.env x = pure x := by intro _; rfl) : TS1 X W (.For tg e body [] pos) (uForD v hT u) := by
  obtain ⟨te, pe, ke⟩ := he.ok
  obtain ⟨tg', pg, kg⟩ := hg.ok
  obtain ⟨tb, pb, kb⟩ := hb.ok
  refine ⟨⟨_, ps_unl (ps_for hp hc (pi_keys (pe_L pe)) pg pb hs), fun f τ ρ σ H De D h1 hl hw => ?_⟩⟩
  refine ke f τ ρ σ H _ _ h1 hw fun n t ρ1 v F H1 h2 s1 => ?_
  obtain ⟨S, rs, s2⟩ := s1.fit0
  cases t using T.cs <;> first | exact h2.elim | skip
  · rename_i ks us
    obtain ⟨d, o, vs, rfl, ⟨od, L⟩ | ⟨hd, mu, L⟩⟩ := lkd_any s2 rfl
    · obtain ⟨⟨hk, hn, rfl⟩, hl2, ⟨f', lk, s3⟩, hd⟩ := L
      exact .inl ⟨d, od, rfl, .inl ⟨_, hd, ford_core kg kb lk (itd_keys hk) s3 hl h2⟩⟩
    · refine .inr ⟨d, o, rfl, hd, mu, fun od nf => ?_⟩
      obtain ⟨⟨hk, hn, rfl⟩, hl2, ⟨f', lk, s3⟩, hd⟩ := L od nf
      exact ⟨d, od, rfl, .inl ⟨_, hd, ford_core kg kb lk (itd_keys hk) s3 hl h2⟩⟩
  · rename_i ks us
    obtain ⟨d, o, vs, rfl, ⟨od, L⟩ | ⟨hd, mu, L⟩⟩ := lkd_any s2 rfl
    · obtain ⟨⟨hk, hn, rfl⟩, hl2, ⟨f', lk, s3⟩, hd⟩ := L
      exact .inl ⟨d, od, rfl, .inr ⟨_, hd, ford_core kg kb lk (itd_keysT hk) s3 hl h2⟩⟩
    · refine .inr ⟨d, o, rfl, hd, mu, fun od nf => ?_⟩
      obtain ⟨⟨hk, hn, rfl⟩, hl2, ⟨f', lk, s3⟩, hd⟩ := L od nf
      exact ⟨d, od, rfl, .inr ⟨_, hd, ford_core kg kb lk (itd_keysT hk) s3 hl h2⟩⟩
theorem ts_forV {js : List Nat} (hp : PassesOwn (model X.prog X.w) X.A X.env X.xe) (hc : X.calm = true) (he : TVE X e v) (hg : TTg X tg js hT) (hb : TSs X W body u) (hs : ∀ x, foldedSetIterable (.Call (.Attribute e "values" apos) [] [] cpos) X.env x = pure x := by intro _; rfl)
    (hbase : attributeBase e "values" X.env (eval e X.env) = eval e X.env := by rfl) (hline : (apos.endLine == cpos.line) = true := by rfl) : TS1 X W (.For tg (.Call (.Attribute e "values" apos) [] [] cpos) body [] pos) (uForV v hT u) := by
  obtain ⟨te, pe, ke⟩ := he.ok
  obtain ⟨tg', pg, kg⟩ := hg.ok
  obtain ⟨tb, pb, kb⟩ := hb.ok
  have pe' : PE X e (teL X te) := pe_L pe
  refine ⟨⟨_, ps_unl (ps_for hp hc (pi_values pe' hbase hline) pg pb hs), fun f τ ρ σ H De D h1 hl hw => ?_⟩⟩
  refine ke f τ ρ σ H _ _ h1 hw fun n t ρ1 v F H1 h2 s1 => ?_
  obtain ⟨S, rs, s2⟩ := s1.fit0
  cases t using T.cs <;> first | exact h2.elim | skip
  · rename_i ks us
    obtain ⟨d, o, vs, rfl, ⟨od, L⟩ | ⟨hd, mu, L⟩⟩ := lkd_any s2 rfl
    · obtain ⟨⟨hk, hn, rfl⟩, hl2, ⟨f', lk, s3⟩, hd⟩ := L
      exact .inl ⟨d, od, _, rfl, hd, ford_core kg kb lk (itd_vals hk hn hl2) s3 hl h2⟩
    · refine .inr ⟨d, o, rfl, hd, mu, fun od nf => ?_⟩
      obtain ⟨⟨hk, hn, rfl⟩, hl2, ⟨f', lk, s3⟩, hd⟩ := L od nf
      exact ⟨d, od, _, rfl, hd, ford_core kg kb lk (itd_vals hk hn hl2) s3 hl h2⟩
theorem ts_forI {js : List Nat} (hp : PassesOwn (model X.prog X.w) X.A X.env X.xe) (hc : X.calm = true) (he : TVE X e v) (hg : TTg X (.Tuple elts kk tpos) js hT) (hb : TSs X W body u) (hs : ∀ x, foldedSetIterable (.Call (.Attribute e "items" apos) [] [] cpos) X.env x = pure x := by intro _; rfl)
    (hbase : attributeBase e "items" X.env (eval e X.env) = eval e X.env := by rfl) (hline : (apos.endLine == cpos.line) = true := by rfl) : TS1 X W (.For (.Tuple elts kk tpos) (.Call (.Attribute e "items" apos) [] [] cpos) body [] pos) (uForI v hT u) := by
  obtain ⟨te, pe, ke⟩ := he.ok
  obtain ⟨tg', pg, kg⟩ := hg.ok
  obtain ⟨tb, pb, kb⟩ := hb.ok
  have pe' : PE X e (teL X te) := pe_L pe
  refine ⟨⟨_, ps_unl (ps_for hp hc (pi_items pe' hbase hline) pg pb hs), fun f τ ρ σ H De D h1 hl hw => ?_⟩⟩
  refine ke f τ ρ σ H _ _ h1 hw fun n t ρ1 v F H1 h2 s1 => ?_
  obtain ⟨S, rs, s2⟩ := s1.fit0
  cases t using T.cs <;> first | exact h2.elim | skip
  · rename_i ks us
    obtain ⟨d, o, vs, rfl, ⟨od, L⟩ | ⟨hd, mu, L⟩⟩ := lkd_any s2 rfl
    · obtain ⟨⟨hk, hn, rfl⟩, hl2, ⟨f', lk, s3⟩, hd⟩ := L
      exact .inl ⟨d, od, _, rfl, hd, ford_core kg kb lk (itd_items hk hn hl2) s3 hl h2⟩
    · refine .inr ⟨d, o, rfl, hd, mu, fun od nf => ?_⟩
      obtain ⟨⟨hk, hn, rfl⟩, hl2, ⟨f', lk, s3⟩, hd⟩ := L od nf
      exact ⟨d, od, _, rfl, hd, ford_core kg kb lk (itd_items hk hn hl2) s3 hl h2⟩
end
end TL
set_option Elab.async false
set_option linter.all false
set_option maxRecDepth 100000
namespace TL
open PySem PySem.Spec PyProof.Rows L2
/-! ### what a dict holds -/
/-- a tree as a key -/
def tKey : T → Option Key
  | .int i => some (.inl i)
  | .str s => some (.inr s)
  | _ => none
def tKeyL : List T → Option (List Key)
  | [] => some []
  | t :: ts => match tKey t, tKeyL ts with
    | some k, some ks => some (k :: ks)
    | _, _ => none
def tKeys : T → Option (List Key)
  | .tup ts => tKeyL ts
  | _ => none
section
variable {κ : Type} [DecidableEq κ]
def lkT : List κ → List T → κ → Option T
  | k :: ks, u :: us, q => if k = q then some u else lkT ks us q
  | _, _, _ => none
/-- d[q] = t -/
def putT : List κ → List T → κ → T → List κ × List T
  | k :: ks, u :: us, q, t => if k = q then (k :: ks, t :: us) else ((k :: (putT ks us q t).1), u :: (putT ks us q t).2)
  | _, _, q, t => ([q], [t])
end
/-- what the node holds at the key (none: no key of its kind) -/
def dlook : NK → List T → T → Option (Option T)
  | .dK ks, us, t => (tKey t).map (lkT ks us)
  | .dT ks, us, t => (tKeys t).map (lkT ks us)
  | _, _, _ => none
section
variable {K : PySem.W.Frag} {S : Addr → Prop} {H : Hp}
theorem tKey_shr {t : T} {q : Key} {y : V} (h : tKey t = some q) (s : Shr K H S t y) : y = kV q := by
  cases t using T.cs <;> first | (cases h; done) | skip
  · cases h; exact shr_int s
  · cases h; exact shr_str s
theorem tKeyL_shr : ∀ {ts : List T} {qs : List Key} {vs : List V}, tKeyL ts = some qs → Shrs K H S ts vs → vs = qs.map kV
  | [], qs, vs, h, s => by
    cases h
    cases s
    rfl
  | t :: ts, qs, vs, h, s => by
    obtain ⟨v, r, rfl, a, b⟩ := s.uncons
    rw [tKeyL] at h
    cases e1 : tKey t with
    | none => rw [e1] at h; cases h
    | some k =>
      cases e2 : tKeyL ts with
      | none => rw [e1, e2] at h; cases h
      | some ks =>
        rw [e1, e2] at h
        cases h
        rw [tKey_shr e1 a, tKeyL_shr e2 b]
        rfl
theorem tKeys_shr {t : T} {qs : List Key} {y : V} (h : tKeys t = some qs) (s : Shr K H S t y) : ∃ b, y = .ref b ∧ H b = some (.tup (qs.map kV)) := by
  cases t using T.cs <;> first | (cases h; done) | skip
  obtain ⟨a, vs, rfl, q, r⟩ := shr_tupR s
  have h : tKeyL _ = some qs := h
  rw [tKeyL_shr h r] at q
  exact ⟨a, rfl, q⟩
/-- a look-up, shared -/
inductive LkR (K : PySem.W.Frag) (H : Hp) (S : Addr → Prop) : Option T → Option V → Prop
  | none : LkR K H S none none
  | some {u : T} {v : V} : Shr K H S u v → LkR K H S (some u) (some v)
theorem lk_rel {κ : Type} [DecidableEq κ] : ∀ {ks : List κ} {us : List T} {vs : List V} (q : κ), ks.length = vs.length → Shrs K H S us vs → LkR K H S (lkT ks us q) (valV (ks.zip vs) q)
  | [], us, vs, q, hl, s => by
    have e : vs = [] := List.eq_nil_of_length_eq_zero (by simpa using hl.symm)
    subst e
    exact .none
  | k :: ks, us, [], q, hl, s => by simp at hl
  | k :: ks, us, v :: vs, q, hl, s => by
    cases us with
    | nil => cases s
    | cons u us =>
      obtain ⟨v', r, e, a, b⟩ := s.uncons
      cases e
      rw [List.zip_cons_cons, lkT]
      by_cases e : k = q
      · rw [if_pos e, valV_pos e]
        exact .some a
      · rw [if_neg e, valV_neg e]
        exact lk_rel q (by simpa using hl) b
theorem dlook_shr {k : NK} {us : List T} {t : T} {o : Option T} {x y : V} (h : dlook k us t = some o) (s : Shr K H S (.nd k us) x) (sk : Shr K H S t y) : ∃ a ov, x = .ref a ∧ IsD H a ∧ DGet H a y ov ∧ LkR K H S o ov := by
  obtain ⟨a, vs, rfl, ⟨ob, i, q⟩, r⟩ := shr_nd s
  have rd : Rd H a ob := by
    rcases q with ⟨q, _⟩ | ⟨_, z, q⟩
    · exact .inl q
    · exact .inr ⟨z, q⟩
  cases k with
  | lst => cases h
  | ins C ns => cases h
  | dK ks =>
    obtain ⟨hl, hn, rfl⟩ := i
    cases e : tKey t with
    | none => rw [dlook, e] at h; cases h
    | some q =>
      rw [dlook, e] at h
      cases h
      exact ⟨a, _, rfl, .inl ⟨_, rd⟩, .inl ⟨_, q, rd, tKey_shr e sk, rfl⟩, lk_rel q hl r⟩
  | dT ks =>
    obtain ⟨hl, hn, rfl⟩ := i
    cases e : tKeys t with
    | none => rw [dlook, e] at h; cases h
    | some q =>
      rw [dlook, e] at h
      cases h
      obtain ⟨b, eb, hb⟩ := tKeys_shr e sk
      exact ⟨a, _, rfl, .inr ⟨_, rd⟩, .inr ⟨_, q, b, rd, eb, hb, rfl⟩, lk_rel q hl r⟩
/-! ### d[k], k in d -/
def rDG : R2 := fun x y H Q => ∃ a v, x = .ref a ∧ DGet H a y (some v) ∧ Q v H
def gDG : F2 := fun t u R => match t with
  | .nd k us => match dlook k us u with
    | some (some z) => R z
    | _ => False
  | _ => False
theorem opT_dget : OpT K rDG gDG := by
  intro S H x y t u Q R h1 h2 hg hq
  cases t with
  | nd k us =>
    have hg : (match dlook k us u with | some (some z) => R z | _ => False) := hg
    split at hg
    · rename_i z e
      obtain ⟨a, ov, rfl, _, g, l⟩ := dlook_shr e h1 h2
      cases l with
      | some s => exact ⟨a, _, rfl, g, hq _ _ _ hg (Same.refl H) (s.mono fun _ => .inl)⟩
    · exact hg.elim
  | _ => exact hg.elim
def rDI (neg : Bool) : R2 := fun y x H Q => ∃ a o, x = .ref a ∧ DGet H a y o ∧ Q (.bl (if neg then !o.isSome else o.isSome)) H
def gDI (neg : Bool) : F2 := fun u t R => match t with
  | .nd k us => match dlook k us u with
    | some o => R (.bl (if neg then !o.isSome else o.isSome))
    | none => False
  | _ => False
theorem opT_dinB (neg : Bool) : OpT K (rDI neg) (gDI neg) := by
  intro S H y x u t Q R h2 h1 hg hq
  cases t with
  | nd k us =>
    have hg : (match dlook k us u with | some o => R (.bl (if neg then !o.isSome else o.isSome)) | none => False) := hg
    split at hg
    · rename_i o e
      obtain ⟨a, ov, rfl, _, g, l⟩ := dlook_shr e h1 h2
      have e2 : ov.isSome = o.isSome := by cases l <;> rfl
      refine ⟨a, ov, rfl, g, ?_⟩
      rw [e2]
      exact hq _ _ _ hg (Same.refl H) (.bl _)
    · exact hg.elim
  | _ => exact hg.elim
end
theorem dU {k : Nat} {A : Around} (hr : Room k A) : A.units + 1 < cLine := by have := hr.un; omega
section
variable {X : Cx} {a b c : Expr} {pos apos : Pos} {wa wb wc : List Ent → (T → Prop) → Prop}
theorem op_din (hu : X.A.units + 1 < cLine) : OpR X (compareOp .In) (rDI false) := fun pins s σ H y x iv u Q I ry rx ⟨d, o, ex, g, q⟩ => by
  subst ex
  obtain rfl : u = Value.ref d := rx
  exact d_in hu I g ry fun s3 I3 => ⟨.bl o.isSome, H, I3, rfl, q⟩
theorem op_dnotin (hu : X.A.units + 1 < cLine) : OpR X (compareOp .NotIn) (rDI true) := fun pins s σ H y x iv u Q I ry rx ⟨d, o, ex, g, q⟩ => by
  subst ex
  obtain rfl : u = Value.ref d := rx
  exact d_notIn hu I g ry fun s3 I3 => ⟨.bl (!o.isSome), H, I3, rfl, q⟩
theorem tp_dget (hu : X.A.units + 1 < cLine) (ha : TPE X a wa) (hb : TPE X b wb) (hs : NoSl b := by intro _ _; rfl) : TPE X (.Subscript a b pos) (w2 gDG wa wb) := by
  obtain ⟨ta, pa, ka⟩ := ha.ok
  obtain ⟨tb, pb, kb⟩ := hb.ok
  refine ⟨⟨_, pe_dget hu pa pb hs, fun S ρ σ H Q R hr hw hq => ?_⟩⟩
  exact two ka kb opT_dget hr hw hq
def isDct : T → Bool
  | .nd k _ => k.lk
  | _ => false
theorem isDct_shr {K : PySem.W.Frag} {S : Addr → Prop} {H : Hp} {t : T} {x : V} (h : isDct t = true) (s : Shr K H S t x) : ∃ a, x = .ref a ∧ IsD H a := by
  cases t with
  | nd k us =>
    obtain ⟨a, vs, rfl, ⟨ob, i, q⟩, r⟩ := shr_nd s
    have rd : Rd H a ob := by
      rcases q with ⟨q, _⟩ | ⟨_, z, q⟩
      · exact .inl q
      · exact .inr ⟨z, q⟩
    refine ⟨a, rfl, ?_⟩
    cases k with
    | lst => cases h
    | ins C ns => cases h
    | dK ks =>
      obtain ⟨hl, hn, rfl⟩ := i
      exact .inl ⟨_, rd⟩
    | dT ks =>
      obtain ⟨hl, hn, rfl⟩ := i
      exact .inr ⟨_, rd⟩
  | _ => cases h
/-- what d.get gives -/
def gGet (t u z : T) (R : T → Prop) : Prop := match t with
  | .nd k us => match dlook k us u with
    | some o => R (o.getD z)
    | none => False
  | _ => False
theorem gGet_shr {K : PySem.W.Frag} {S : Addr → Prop} {H : Hp} {t u z : T} {R : T → Prop} {a : Addr} {y w : V} (h : gGet t u z R) (s : Shr K H S t (.ref a)) (sk : Shr K H S u y) (sz : Shr K H S z w) : ∃ ov r, DGet H a y ov ∧ R r ∧ Shr K H S r (ov.getD w) := by
  cases t with
  | nd k us =>
    have h : (match dlook k us u with | some o => R (o.getD z) | none => False) := h
    split at h
    · rename_i o e
      obtain ⟨a', ov, e', _, g, l⟩ := dlook_shr e s sk
      cases e'
      refine ⟨ov, _, g, h, ?_⟩
      cases l with
      | none => exact sz
      | some q => exact q
    · exact h.elim
  | _ => exact h.elim
/-- d.get(k), d.get(k, x) -/
def wDG1 (wa wb : List Ent → (T → Prop) → Prop) : List Ent → (T → Prop) → Prop := fun ρ R => wa ρ fun t => isDct t = true ∧ wb ρ fun u => gGet t u .non R
def wDG2 (wa wb wc : List Ent → (T → Prop) → Prop) : List Ent → (T → Prop) → Prop := fun ρ R => wa ρ fun t => isDct t = true ∧ wb ρ fun u => wc ρ fun z => gGet t u z R
theorem tp_dget1 {cpos : Pos} (hu : X.A.units + 1 < cLine) (ha : TPE X a wa) (hb : TPE X b wb) (m : M1 X a "get" apos b cpos) : TPE X (.Call (.Attribute a "get" apos) [b] [] cpos) (wDG1 wa wb) := by
  obtain ⟨ta, pa, ka⟩ := ha.ok
  obtain ⟨tb, pb, kb⟩ := hb.ok
  refine ⟨⟨_, pe_dget1 hu pa pb m, fun S ρ σ H Q R hr hw hq => ?_⟩⟩
  refine ka S ρ σ H _ _ hr hw fun t v H1 h1 s1 x1 => ?_
  obtain ⟨p, rfl, hd⟩ := isDct_shr h1.1 x1
  refine ⟨p, rfl, hd, kb (fresh S H) ρ σ H1 _ _ (hr.same s1) h1.2 fun u v2 H2 h2 s2 x2 => ?_⟩
  obtain ⟨ov, r, g, hR, x3⟩ := gGet_shr h2 (shr_up x1 s2) x2 .non
  exact ⟨ov, g, hq r _ H2 hR (s1.trans s2) (shr_dn x3 s1)⟩
theorem tp_dget2 {cpos : Pos} (hu : X.A.units + 1 < cLine) (ha : TPE X a wa) (hb : TPE X b wb) (hc : TPE X c wc) (m : M2 X a "get" apos b c cpos) : TPE X (.Call (.Attribute a "get" apos) [b, c] [] cpos) (wDG2 wa wb wc) := by
  obtain ⟨ta, pa, ka⟩ := ha.ok
  obtain ⟨tb, pb, kb⟩ := hb.ok
  obtain ⟨tc, pc, kc⟩ := hc.ok
  refine ⟨⟨_, pe_dget2 hu pa pb pc m, fun S ρ σ H Q R hr hw hq => ?_⟩⟩
  refine ka S ρ σ H _ _ hr hw fun t v H1 h1 s1 x1 => ?_
  obtain ⟨p, rfl, hd⟩ := isDct_shr h1.1 x1
  refine ⟨p, rfl, hd, kb (fresh S H) ρ σ H1 _ _ (hr.same s1) h1.2 fun u v2 H2 h2 s2 x2 => ?_⟩
  refine kc (fresh (fresh S H) H1) ρ σ H2 _ _ ((hr.same s1).same s2) h2 fun z v3 H3 h3 s3 x3 => ?_
  obtain ⟨ov, r, g, hR, x4⟩ := gGet_shr h3 (shr_up (shr_up x1 s2) s3) (shr_up x2 s3) x3
  exact ⟨ov, g, hq r _ H3 hR ((s1.trans s2).trans s3) (shr_dn (shr_dn x4 s2) s1)⟩
end
/-! ### a part of what slot j owns one deep -/
section
variable {X : Cx} {a b c : Expr} {pos apos p : Pos} {wa wb wc : List Ent → (T → Prop) → Prop}
/-- slot j owns a node whose items are shared -/
def kidsOf (ρ : List Ent) (j : Nat) : Option (NK × List T) := match ρ[j]? with
  | some (.ow 1 (.nd k us)) => some (k, us)
  | some (.io 1 (.nd k us)) => some (k, us)
  | _ => none
theorem kids_at {K : PySem.W.Frag} {f : Fm} {τ rs : List Root} {ρ : List Ent} {σ : St} {H : Hp} {S : Addr → Prop} {j : Nat} {k : NK} {us : List T} (s : StaW K f τ ρ σ H S rs) (h : kidsOf ρ j = some (k, us)) :
    ∃ (a : Addr) (o : HO) (vs : List V), σ[j]? = some (some (.ref a)) ∧ H a = some o ∧ k.is o vs ∧ Shrs K H S us vs := by
  have own0 : ∀ {e : Ent}, ρ[j]? = some e → e.own = some (1, .nd k us) → ∃ (a : Addr) (o : HO) (vs : List V), σ[j]? = some (some (.ref a)) ∧ H a = some o ∧ k.is o vs ∧ Shrs K H S us vs := by
    intro e he ho
    obtain ⟨r, g1, g2, g3, g4⟩ := s.get he
    obtain ⟨v0, e1, own⟩ := (s.good.slot j r g1).1.own (g2 ▸ ho)
    generalize r.F = Fr at own
    cases own with
    | nd q i r =>
      have z := r.zero
      subst z
      exact ⟨_, _, _, by rw [g3, e1], q, i, r⟩
  unfold kidsOf at h
  split at h
  · rename_i he; cases h; exact own0 he rfl
  · rename_i he; cases h; exact own0 he rfl
  · cases h
theorem dlook_kids {K : PySem.W.Frag} {S : Addr → Prop} {H : Hp} {k : NK} {us : List T} {t : T} {o : Option T} {a : Addr} {ob : HO} {vs : List V} {y : V} (h : dlook k us t = some o) (ha : H a = some ob) (i : k.is ob vs) (r : Shrs K H S us vs) (S' : Addr → Prop) (sk : Shr K H S' t y) : ∃ ov, IsD H a ∧ DGet H a y ov ∧ LkR K H S o ov := by
  cases k with
  | lst => cases h
  | ins C ns => cases h
  | dK ks =>
    obtain ⟨hl, hn, rfl⟩ := i
    cases e : tKey t with
    | none => rw [dlook, e] at h; cases h
    | some q =>
      rw [dlook, e] at h
      cases h
      exact ⟨_, .inl ⟨_, .inl ha⟩, .inl ⟨_, q, .inl ha, tKey_shr e sk, rfl⟩, lk_rel q hl r⟩
  | dT ks =>
    obtain ⟨hl, hn, rfl⟩ := i
    cases e : tKeys t with
    | none => rw [dlook, e] at h; cases h
    | some q =>
      rw [dlook, e] at h
      cases h
      obtain ⟨b, eb, hb⟩ := tKeys_shr e sk
      exact ⟨_, .inr ⟨_, .inl ha⟩, .inr ⟨_, q, b, .inl ha, eb, hb, rfl⟩, lk_rel q hl r⟩
/-- d[k], d the variable at j that owns it -/
def vKD (j : Nat) (wb : List Ent → (T → Prop) → Prop) : List Ent → (Nat → T → List Ent → Prop) → Prop := fun ρ R => match kidsOf ρ j with
  | some (k, us) => wb ρ fun u => match dlook k us u with
    | some (some z) => R 0 z ρ
    | _ => False
  | none => False
theorem tv_kd (j : Nat) {x : Str} (hu : X.A.units + 1 < cLine) (hb : TPE X b wb) (hs : NoSl b := by intro _ _; rfl) (hN : X.N[j]? = some x := by rfl) (hv : Vis X.env.scope x := by first | exact Or.inl rfl | exact Or.inr (Or.inl rfl) | exact Or.inr (Or.inr rfl)) (hd : (x == ("__debug__" : Str)) = false := by decide)
    (hcd : (x == ("__classdict__" : Str)) = false := by decide) : TVE X (.Subscript (.Name x p) b pos) (vKD j wb) := by
  obtain ⟨tb, pb, kb⟩ := hb.ok
  refine ⟨⟨_, pe_dget hu (pe_var hN hv hd hcd) pb hs, fun f τ ρ σ H Q R h1 hw hq => ?_⟩⟩
  unfold vKD at hw
  split at hw
  · rename_i k us hk
    obtain ⟨S, rs, s⟩ := h1
    obtain ⟨a, o, vs, g1, _, _, _⟩ := kids_at s hk
    refine ⟨.ref a, g1, kb _ ρ σ H _ _ s.rdAll hw fun u v2 H2 h2 s2 x2 => ?_⟩
    have s3 := s.grow s2
    obtain ⟨a', o', vs', g1', g2, i, r⟩ := kids_at s3 hk
    rw [g1] at g1'
    cases g1'
    split at h2
    · rename_i z e
      obtain ⟨ov, _, g, l⟩ := dlook_kids e g2 i r _ x2
      cases l with
      | some q => exact ⟨a, _, rfl, g, hq 0 z ρ _ [] H2 h2 ⟨_, rs, s3.pushS q⟩⟩
    · exact h2.elim
  · exact hw.elim
/-- d.get(k, x) -/
def vKG (j : Nat) (wb wc : List Ent → (T → Prop) → Prop) : List Ent → (Nat → T → List Ent → Prop) → Prop := fun ρ R => match kidsOf ρ j with
  | some (k, us) => k.lk = true ∧ wb ρ fun u => wc (shOnly ρ) fun z => match dlook k us u with
    | some o => R 0 (o.getD z) ρ
    | none => False
  | none => False
theorem tv_kget (j : Nat) {x : Str} {cpos : Pos} (hu : X.A.units + 1 < cLine) (hb : TPE X b wb) (hc : TPE X c wc) (m : M2 X (.Name x p) "get" apos b c cpos) (hN : X.N[j]? = some x := by rfl) (hv : Vis X.env.scope x := by first | exact Or.inl rfl | exact Or.inr (Or.inl rfl) | exact Or.inr (Or.inr rfl)) (hd : (x == ("__debug__" : Str)) = false := by decide)
    (hcd : (x == ("__classdict__" : Str)) = false := by decide) : TVE X (.Call (.Attribute (.Name x p) "get" apos) [b, c] [] cpos) (vKG j wb wc) := by
  obtain ⟨tb, pb, kb⟩ := hb.ok
  obtain ⟨tc, pc, kc⟩ := hc.ok
  refine ⟨⟨_, pe_dget2 hu (pe_var hN hv hd hcd) pb pc m, fun f τ ρ σ H Q R h1 hw hq => ?_⟩⟩
  unfold vKG at hw
  split at hw
  · rename_i k us hk
    obtain ⟨S, rs, s⟩ := h1
    obtain ⟨a, o, vs, g1, g2, i, r⟩ := kids_at s hk
    have hd : IsD H a := by
      cases k with
      | lst => cases hw.1
      | ins C ns => cases hw.1
      | dK ks =>
        obtain ⟨hl, hn, rfl⟩ := i
        exact .inl ⟨_, .inl g2⟩
      | dT ks =>
        obtain ⟨hl, hn, rfl⟩ := i
        exact .inr ⟨_, .inl g2⟩
    refine ⟨.ref a, g1, a, rfl, hd, kb _ ρ σ H _ _ s.rdAll hw.2 fun u v2 H2 h2 s2 x2 => ?_⟩
    have s3 := s.grow s2
    refine kc _ (shOnly ρ) σ H2 _ _ s3.rdSh h2 fun z v3 H3 h3 s4 x3 => ?_
    have s5 := s3.grow s4
    obtain ⟨a', o', vs', g1', g2', i', r'⟩ := kids_at s5 hk
    rw [g1] at g1'
    cases g1'
    split at h3
    · rename_i o e
      obtain ⟨ov, _, g, l⟩ := dlook_kids e g2' i' r' _ (shr_up x2 s4)
      refine ⟨ov, g, hq 0 _ ρ _ [] H3 h3 ⟨_, rs, s5.pushS ?_⟩⟩
      cases l with
      | none => exact shr_grown x3
      | some q => exact q
    · exact h3.elim
  · exact hw.elim
end
end TL
set_option Elab.async false
set_option linter.all false
set_option maxRecDepth 100000
namespace TL
open PySem PySem.Spec PyProof.Rows L2
/-! ### dicts made -/
section
variable {X : Cx} {a b c k e : Expr} {ks : List (Option Expr)} {vs : List Expr} {pos apos p : Pos} {wa wb wc wk : List Ent → (T → Prop) → Prop}
theorem same_new {H : Hp} {p : Addr} {o : HO} (hp : H p = none) (no : NTbl o := by first | exact nt_dK | exact nt_dT | exact nt_tup | exact nt_lst) : Same H (upd H p o) := Same.new hp no
def vDN (kd : NK) : List Ent → (Nat → T → List Ent → Prop) → Prop := fun ρ R => R 1 (.nd kd []) ρ
theorem tv_dnewK : TVE X (.Dict [] [] pos) (vDN (.dK [])) := ⟨⟨_, pe_dnewK, fun f τ ρ σ H Q R h1 hw hq p hp => by
  obtain ⟨S, rs, s⟩ := h1
  exact hq _ _ _ _ _ _ hw ⟨S, rs, s.pushNew hp (kd := .dK []) (vs := []) ⟨rfl, List.nodup_nil, rfl⟩ .nil⟩⟩⟩
theorem tv_dnewT : TVE X (.Dict [] [] pos) (vDN (.dT [])) := ⟨⟨_, pe_dnewT, fun f τ ρ σ H Q R h1 hw hq p hp => by
  obtain ⟨S, rs, s⟩ := h1
  exact hq _ _ _ _ _ _ hw ⟨S, rs, s.pushNew hp (kd := .dT []) (vs := []) ⟨rfl, List.nodup_nil, rfl⟩ .nil⟩⟩⟩
theorem tp_dnewK : TPE X (.Dict [] [] pos) (wC (.nd (.dK []) [])) := ⟨⟨_, pe_dnewK, fun S ρ σ H Q R hr hw hq p hp => hq _ _ _ hw (same_new hp) (.snd ⟨_, ⟨rfl, List.nodup_nil, rfl⟩, .inl ⟨upd_same, .inr hp⟩⟩ .nil)⟩⟩
/-- the pairs of a display -/
structure TPP (X : Cx) (pos : Pos) (keys : List (Option Expr)) (values : List Expr) (w : List Ent → (List T → List T → Prop) → Prop) : Prop where
  ok : ∃ trs, PPs X pos keys values trs ∧ ∀ (S : Addr → Prop) (ρ : List Ent) (σ : St) (H : Hp) (Q : List (V × V) → Hp → Prop) (R : List T → List T → Prop), RdS X.K S ρ σ H → w ρ R →
    (∀ ks us xs ys H', R ks us → Same H H' → Shrs X.K H' (fresh S H) ks xs → Shrs X.K H' (fresh S H) us ys → xs.length = ys.length → Q (xs.zip ys) H') → tPairs trs σ H Q
theorem tpp_nil : TPP X pos [] [] (fun _ R => R [] []) := ⟨⟨_, pps_nil, fun S ρ σ H Q R hr hw hq => hq [] [] [] [] H hw (Same.refl H) .nil .nil rfl⟩⟩
theorem tpp_cons {wp : List Ent → (List T → List T → Prop) → Prop} (ha : TPE X a wa) (hb : TPE X b wb) (hr : TPP X pos ks vs wp) : TPP X pos (some a :: ks) (b :: vs) (fun ρ R => wa ρ fun t => wb ρ fun u => wp ρ fun ts us => R (t :: ts) (u :: us)) := by
  obtain ⟨ta, pa, ka⟩ := ha.ok
  obtain ⟨tb, pb, kb⟩ := hb.ok
  obtain ⟨tr, pr, kr⟩ := hr.ok
  refine ⟨⟨_, pps_cons pa pb pr, fun S ρ σ H Q R hr hw hq => ?_⟩⟩
  refine ka S ρ σ H _ _ hr hw fun t v H1 h1 s1 x1 => ?_
  refine kb (fresh S H) ρ σ H1 _ _ (hr.same s1) h1 fun u v2 H2 h2 s2 x2 => ?_
  refine kr (fresh (fresh S H) H1) ρ σ H2 _ _ ((hr.same s1).same s2) h2 fun ts us xs ys H3 h3 s3 x3 x4 hl => ?_
  have up : ∀ {z : T} {w : V}, Shr X.K H3 (fresh (fresh (fresh S H) H1) H2) z w → Shr X.K H3 (fresh S H) z w := fun h => shr_dn (shr_dn h s2) s1
  have ups : ∀ {z : List T} {w : List V}, Shrs X.K H3 (fresh (fresh (fresh S H) H1) H2) z w → Shrs X.K H3 (fresh S H) z w := fun h => Owns.mono (fun _ z => fresh_trans s1 (fresh_trans s2 z)) h
  exact hq _ _ (v :: xs) (v2 :: ys) H3 h3 ((s1.trans s2).trans s3) (Shrs.cons (up (shr_up (shr_up x1 s2) s3)) (ups x3)) (Shrs.cons (up (shr_up x2 s3)) (ups x4)) (by simp [hl])
theorem merge_nd {κ : Type} [DecidableEq κ] : ∀ {more kvs : List (κ × V)}, ((kvs ++ more).map (·.1)).Nodup → more.foldl (fun acc kv => putK acc kv.1 kv.2) kvs = kvs ++ more
  | [], kvs, h => by simp
  | p :: more, kvs, h => by
    have hn : valV kvs p.1 = none := by
      cases e : valV kvs p.1 with
      | none => rfl
      | some v =>
        have := valV_in e
        rw [List.map_append, List.map_cons] at h
        exact absurd rfl ((List.nodup_append.mp h).2.2 p.1 this p.1 List.mem_cons_self)
    rw [List.foldl_cons, putK_new _ hn, merge_nd (by simpa using h)]
    simp
def wDisp (wp : List Ent → (List T → List T → Prop) → Prop) : List Ent → (T → Prop) → Prop := fun ρ R => wp ρ fun ks us => match tKeyL ks with
  | some qs => qs.Nodup ∧ qs.length ≤ 15 ∧ R (.nd (.dK qs) us)
  | none => False
theorem tp_disp {wp : List Ent → (List T → List T → Prop) → Prop} (h : TPP X pos ks vs wp) (hall : ks.all (·.isSome) = true := by rfl) (hl : ks.length = vs.length := by rfl) (h0 : ks ≠ [] := by simp) (h15 : ks.length ≤ 15 := by decide) : TPE X (.Dict ks vs pos) (wDisp wp) := by
  obtain ⟨tr, pr, kr⟩ := h.ok
  refine ⟨⟨_, pe_disp pr hall hl h0 h15, fun S ρ σ H Q R hr hw hq p hp => ?_⟩⟩
  have sm := same_new (o := .dK []) hp
  have hr0 : RdS X.K (fun a => S a ∧ H a ≠ none) ρ σ (upd H p (.dK [])) := ⟨sm.tb hr.tb, fun i e t h1 h2 => by
    obtain ⟨v, h3, h4⟩ := hr i e t h1 h2
    exact ⟨v, h3, h4.trk.keep (fun _ z => z) (.same sm)⟩⟩
  refine kr _ ρ σ _ _ _ hr0 hw fun ts us xs ys H2 h2 s2 x1 x2 hxy => ?_
  have hp2 : H2 p = some (.dK []) := s2.ex _ _ upd_same nt_dK.1
  refine ⟨hp2, ?_⟩
  split at h2
  · rename_i qs e
    obtain ⟨hn, h15', hR⟩ := h2
    have ex := tKeyL_shr e x1
    subst ex
    have hqy : qs.length = ys.length := by simpa using hxy
    have hk : ∀ (qs : List Key) (ys : List V), (qs.map kV).zip ys = (qs.zip ys).map fun kv => (kV kv.1, kv.2) := fun qs ys => by
      rw [List.zip_map_left, List.map_inj_left]
      intro p _
      rfl
    refine ⟨qs.zip ys, hk qs ys, by rw [List.length_zip]; omega, ?_⟩
    have em : mergeK [] (qs.zip ys) = qs.zip ys := by
      have z := merge_nd (kvs := []) (more := qs.zip ys) (by rw [List.nil_append, List.map_fst_zip (by omega)]; exact hn)
      rw [List.nil_append] at z
      exact z
    rw [em]
    have ns : ∀ a, fresh (fun a => S a ∧ H a ≠ none) (upd H p (.dK [])) a → a ≠ p ∧ fresh S H a := fun a z => by
      rcases z with z | z
      · exact ⟨fun y => z.2 (by rw [y]; exact hp), .inl z.1⟩
      · have ne : a ≠ p := fun y => by rw [y, upd_same] at z; cases z
        rw [upd_ne ne] at z
        exact ⟨ne, .inr z⟩
    have kp : Kp H2 (upd H2 p (.dK (qs.zip ys))) (fresh (fun a => S a ∧ H a ≠ none) (upd H p (.dK []))) [] :=
      ⟨fun a xs z => by rw [upd_ne (fun y => by rw [y, hp2] at z; cases z)]; exact z, fun a o u z => by rw [upd_ne (fun y => by rw [y, hp2] at z; cases z)]; exact z,
        fun a o hs _ z => by rw [upd_ne (ns a (hs.resolve_right (by simp))).1]; exact z, fun a φ z => by rw [upd_ne (fun y => by rw [y, hp2] at z; cases z)]; exact z⟩
    have sm3 : Same H (upd H2 p (.dK (qs.zip ys))) := Same.of (fun a o z => by
      rw [upd_ne (ne_of_none z hp)]
      exact s2.stay (sm.stay (.inl z))) fun tb => (s2.tb (sm.tb tb)).upd nt_dK fun u z => by rw [hp2] at z; cases z; exact nt_dK
    refine hq _ _ _ hR sm3 (.snd ⟨_, ⟨hqy, hn, rfl⟩, .inl ⟨upd_same, .inr hp⟩⟩ ?_)
    exact Owns.keep (fun a z => (ns a z).2) x2 kp
  · exact h2.elim
end
/-! ### d[k] = e -/
section
variable {κ : Type} [DecidableEq κ]
theorem putT_rel : ∀ {ks : List κ} {us : List T} {vs : List V} (q : κ) (z : T) (v : V), ks.length = us.length → ks.length = vs.length → ks.Nodup →
    (∃ i, i < us.length ∧ (putT ks us q z) = (ks, us.set i z) ∧ putK (ks.zip vs) q v = ks.zip (vs.set i v)) ∨ ((putT ks us q z) = (ks ++ [q], us ++ [z]) ∧ (ks ++ [q]).Nodup ∧ putK (ks.zip vs) q v = (ks ++ [q]).zip (vs ++ [v]))
  | [], us, vs, q, z, v, h1, h2, hn => by
    have e1 : us = [] := List.eq_nil_of_length_eq_zero (by simpa using h1.symm)
    have e2 : vs = [] := List.eq_nil_of_length_eq_zero (by simpa using h2.symm)
    subst e1; subst e2
    exact .inr ⟨rfl, by simp, rfl⟩
  | k :: ks, [], _, q, z, v, h1, _, _ => by simp at h1
  | k :: ks, _ :: _, [], q, z, v, _, h2, _ => by simp at h2
  | k :: ks, u :: us, w :: vs, q, z, v, h1, h2, hn => by
    obtain ⟨hk, hn'⟩ := List.nodup_cons.mp hn
    rw [putT, List.zip_cons_cons]
    by_cases e : k = q
    · subst e
      rw [if_pos rfl]
      refine .inl ⟨0, by simp, rfl, ?_⟩
      have nk : ∀ p ∈ ks.zip vs, ¬ p.1 = k := fun p hp e => hk (e ▸ (List.of_mem_zip hp).1)
      unfold putK
      rw [if_pos (by simp), List.map_cons, if_pos rfl]
      rw [List.set_cons_zero, List.zip_cons_cons]
      congr 1
      conv => rhs; rw [← List.map_id (ks.zip vs)]
      exact List.map_congr_left fun p hp => by rw [if_neg (nk p hp)]; rfl
    · rw [if_neg e]
      have step : putK ((k, w) :: ks.zip vs) q v = (k, w) :: putK (ks.zip vs) q v := by
        unfold putK
        by_cases c : ((ks.zip vs).any fun kv => decide (kv.1 = q)) = true
        · rw [if_pos (by simp [c]), if_pos c, List.map_cons, if_neg e]
        · rw [if_neg (by simpa [e] using c), if_neg c]; rfl
      rw [step]
      rcases putT_rel q z v (by simpa using h1) (by simpa using h2) hn' with ⟨i, hi, e1, e2⟩ | ⟨e1, e2, e3⟩
      · refine .inl ⟨i + 1, by simpa using hi, by rw [e1]; rfl, by rw [e2]; rfl⟩
      · refine .inr ⟨by rw [e1]; rfl, ?_, by rw [e3]; rfl⟩
        rw [List.cons_append]
        refine List.nodup_cons.mpr ⟨fun m => ?_, e2⟩
        rcases List.mem_append.mp m with m | m
        · exact hk m
        · exact e (List.mem_singleton.mp m)
end
/-- the node behind d[t] = z -/
def dput : NK → List T → T → T → Option (NK × List T)
  | .dK ks, us, t, z => (tKey t).map fun q => (.dK (putT ks us q z).1, (putT ks us q z).2)
  | .dT ks, us, t, z => (tKeys t).map fun q => (.dT (putT ks us q z).1, (putT ks us q z).2)
  | _, _, _, _ => none
/-- slot j owns a node -/
def ownD (ρ : List Ent) (j : Nat) : Option (Nat × NK × List T) := match ρ[j]? with
  | some (.ow (n + 1) (.nd k us)) => some (n, k, us)
  | some (.io (n + 1) (.nd k us)) => some (n, k, us)
  | _ => none
def ndSet (j : Nat) (ρ : List Ent) (k : NK) (us : List T) : List Ent := match ρ[j]? with
  | some e => (killJ [j] ρ).set j (e.put (.nd k us))
  | none => ρ
section
variable {K : PySem.W.Frag} {f : Fm} {H : Hp} {τ : List Root} {ρ : List Ent} {σ : St} {j m : Nat}
theorem ownD_at {n : Nat} {k : NK} {us : List T} (h : ownD ρ j = some (n, k, us)) : ∃ e, ρ[j]? = some e ∧ e.own = some (n + 1, .nd k us) := by
  unfold ownD at h
  split at h
  · rename_i he; cases h; exact ⟨_, he, rfl⟩
  · rename_i he; cases h; exact ⟨_, he, rfl⟩
  · cases h
theorem Sta.ownV {n : Nat} {k : NK} {us : List T} (s : Sta K f τ ρ σ H) (h : ownD ρ j = some (n, k, us)) : ∃ a, σ[j]? = some (some (.ref a)) := by
  obtain ⟨e, he, ho⟩ := ownD_at h
  obtain ⟨S, rs, s⟩ := s
  obtain ⟨r, g1, g2, g3, g4⟩ := s.get he
  obtain ⟨v0, e1, own⟩ := (s.good.slot j r g1).1.own (g2 ▸ ho)
  generalize r.F = Fr at own
  cases own with
  | nd q i r => exact ⟨_, by rw [g3, e1]⟩
theorem Sta.dput {n : Nat} {k k' : NK} {us us' : List T} {t t2 : T} {v2 y : V} {F2 : List Addr} {S' : Addr → Prop} (s : Sta K f (τ ++ [tmp m t2 v2 F2]) ρ σ H) (h : ownD ρ j = some (n, k, us)) (hf : fit n m t2) (hd : TL.dput k us t t2 = some (k', us')) (hl : us.length < 1000000) (sk : Shr K H S' t y) :
    ∃ a H', σ[j]? = some (some (.ref a)) ∧ DPut H a y v2 H' ∧ Sta K f τ (ndSet j ρ k' us') σ H' := by
  obtain ⟨e, he, ho⟩ := ownD_at h
  obtain ⟨a, hv⟩ := s.ownV h
  have hz : ∀ {l : Nat}, l < 1000000 → l < sizeLine := fun h => by rw [sizeLine_eq]; omega
  obtain ⟨oa, vs, h1, h2, h3, _, h5, h6⟩ := s.mut he ho hv .nil (by simp) (by simpa using hf)
  have es : ∀ k' us', ndSet j ρ k' us' = (TL.killJ [j] ρ).set j (e.put (T.put (.nd k' us') [] (.nd k us))) := fun k' us' => by
    unfold ndSet
    rw [he]
    rfl
  cases k with
  | lst => cases hd
  | ins C ns => cases hd
  | dK ks =>
    obtain ⟨l1, hn, rfl⟩ := h2
    cases e : tKey t with
    | none => rw [TL.dput, e] at hd; cases hd
    | some q =>
      rw [TL.dput, e] at hd
      cases hd
      refine ⟨a, _, hv, .inl ⟨_, q, h1, tKey_shr e sk, by rw [List.length_zip]; exact hz (by omega), rfl⟩, ?_⟩
      rw [es]
      rcases putT_rel q t2 v2 (us := us) (by omega) l1 hn with ⟨i, hi, e1, e2⟩ | ⟨e1, e2, e3⟩
      · rw [e1, e2]
        exact h5 i _ _ hi ⟨by rw [List.length_set]; exact l1, hn, rfl⟩
      · rw [e1, e3]
        exact h6 _ _ ⟨by simp [l1], e2, rfl⟩
  | dT ks =>
    obtain ⟨l1, hn, rfl⟩ := h2
    cases e : tKeys t with
    | none => rw [TL.dput, e] at hd; cases hd
    | some q =>
      rw [TL.dput, e] at hd
      cases hd
      obtain ⟨b, eb, hb⟩ := tKeys_shr e sk
      refine ⟨a, _, hv, .inr ⟨_, q, b, h1, eb, hb, by rw [List.length_zip]; exact hz (by omega), rfl⟩, ?_⟩
      rw [es]
      rcases putT_rel q t2 v2 (us := us) (by omega) l1 hn with ⟨i, hi, e1, e2⟩ | ⟨e1, e2, e3⟩
      · rw [e1, e2]
        exact h5 i _ _ hi ⟨by rw [List.length_set]; exact l1, hn, rfl⟩
      · rw [e1, e3]
        exact h6 _ _ ⟨by simp [l1], e2, rfl⟩
end
section
variable {X : Cx} {W : WX} {e ie : Expr} {pos p tpos : Pos} {w wi : List Ent → (T → Prop) → Prop} {v : List Ent → (Nat → T → List Ent → Prop) → Prop}
def uDp (j : Nat) (v : List Ent → (Nat → T → List Ent → Prop) → Prop) (wi : List Ent → (T → Prop) → Prop) : TEnds → List Ent → Prop := fun De ρ => v ρ fun m t2 ρ1 => match ownD ρ1 j with
  | some (n, k, us) => wi ρ1 fun t => match dput k us t t2 with
    | some (k', us') => fit n m t2 ∧ us.length < 1000000 ∧ De.nx (ndSet j ρ1 k' us')
    | none => False
  | none => False
theorem ts_dput (j : Nat) {x : Str} (hu : X.A.units + 1 < cLine) (he : TVE X e v) (hi : TPE X ie wi) (hN : X.N[j]? = some x := by rfl) (hv : Vis X.env.scope x := by first | exact Or.inl rfl | exact Or.inr (Or.inl rfl) | exact Or.inr (Or.inr rfl)) (hd : (x == ("__debug__" : Str)) = false := by decide)
    (hcd : (x == ("__classdict__" : Str)) = false := by decide) (hs : swapsWith e (some (.Subscript (.Name x p) ie tpos)) pos.line X.env = pure false := by rfl) : TS1 X W (.Assign [.Subscript (.Name x p) ie tpos] e pos) (uDp j v wi) := by
  obtain ⟨te, pe, ke⟩ := he.ok
  obtain ⟨ti, pi, ki⟩ := hi.ok
  refine ⟨⟨_, ps_dput hu (pe_var hN hv hd hcd) pi pe hs, fun f τ ρ σ H De D h1 hl hw => ?_⟩⟩
  refine ke f τ ρ σ H _ _ h1 hw fun m t2 ρ1 v2 F2 H1 h2 s1 => ?_
  split at h2
  · rename_i n k us hk
    obtain ⟨a, g1⟩ := s1.ownV hk
    refine ⟨.ref a, g1, ki _ ρ1 σ H1 _ _ s1.rdAll h2 fun t iv H2 h3 sm x1 => ?_⟩
    split at h3
    · rename_i k' us' hp
      obtain ⟨a', H', g1', pt, s2⟩ := (s1.same sm).dput hk h3.1 hp h3.2.1 x1
      rw [g1] at g1'
      cases g1'
      exact ⟨a, H', rfl, pt, hl.nx _ σ _ h3.2.2 s2⟩
    · exact h3.elim
  · exact h2.elim
end
/-! ### len -/
def gLenA : List T → (T → Prop) → Prop := fun ts R => match ts with
  | [.nd .lst us] => R (.int us.length)
  | [.tup us] => R (.int us.length)
  | [.scr ns] => R (.int ns.length)
  | [.ctp us] => R (.int us.length)
  | [.nd (.dK ks) _] => R (.int ks.length)
  | _ => False
theorem call_lenR {X : Cx} : CallR X (.builtin "len") (fun xs H Q => ∃ a kvs, xs = [V.ref a] ∧ Rd H a (.dK kvs) ∧ Q (.int kvs.length) H) := by
  intro pins s σ H xs us Q I r ⟨a, kvs, ex, ha, q⟩
  subst ex
  obtain ⟨u, rfl, ru⟩ := vals1 r
  cases ru
  exact d_len I ha fun t s' I' => ⟨.int kvs.length, H, I', ⟨t, rfl⟩, q⟩
theorem call_lenA {X : Cx} : CallR X (.builtin "len") (fun xs H Q => (∃ p ys, xs = [.ref p] ∧ (SqL X.K H p ys ∨ SqT X.K H p ys) ∧ Q (.int ys.length) H) ∨ ∃ a kvs, xs = [V.ref a] ∧ Rd H a (.dK kvs) ∧ Q (.int kvs.length) H) := call_len_seq.or call_lenR
theorem caT_lenA {K : PySem.W.Frag} : CaT K (fun xs H Q => (∃ p ys, xs = [.ref p] ∧ (SqL K H p ys ∨ SqT K H p ys) ∧ Q (.int ys.length) H) ∨ ∃ a kvs, xs = [V.ref a] ∧ Rd H a (.dK kvs) ∧ Q (.int kvs.length) H) gLenA := by
  intro S H xs ts Q R h hg hq
  cases ts with
  | nil => exact hg.elim
  | cons t ts =>
    cases ts with
    | cons _ _ => cases t using T.cs <;> exact hg.elim
    | nil =>
      cases t using T.cs <;> first | exact hg.elim | exact .inl (caT_len S H xs _ Q R h hg hq) | skip
      rename_i ks us
      obtain ⟨v, rfl, a⟩ := shrs1 h
      obtain ⟨p, vs, rfl, ⟨o, i, q⟩, r⟩ := shr_nd a
      obtain ⟨hl, hn, rfl⟩ := i
      have rd : Rd H p (.dK (ks.zip vs)) := by
        rcases q with ⟨q, _⟩ | ⟨_, z, q⟩
        · exact .inl q
        · exact .inr ⟨z, q⟩
      refine .inr ⟨p, _, rfl, rd, ?_⟩
      rw [List.length_zip, show min ks.length vs.length = ks.length by omega]
      exact hq _ _ _ hg (Same.refl H) (.int _)
end TL
set_option Elab.async false
set_option linter.all false
set_option maxRecDepth 100000
namespace TL
open PySem PySem.Spec PyProof.Rows L2
/-! ### zip of three lists -/
def Itz3 (K : PySem.W.Frag) (a b c : Addr) : It :=
  ⟨fun i H => ∃ (xs ys zs : List V), SqL K H a xs ∧ SqL K H b ys ∧ SqL K H c zs ∧ i < xs.length ∧ i < ys.length ∧ i < zs.length,
    fun i H v H' => ∃ T x y z, v = .ref T ∧ H T = none ∧ H' = upd H T (.tup [x, y, z]) ∧ (∀ xs, SqL K H a xs → xs[i]? = some x) ∧ (∀ ys, SqL K H b ys → ys[i]? = some y) ∧ ∀ zs, SqL K H c zs → zs[i]? = some z,
    fun i H => ∃ xs ys zs : List V, SqL K H a xs ∧ SqL K H b ys ∧ SqL K H c zs ∧ i = min (min xs.length ys.length) zs.length⟩
section
variable {P : Program} {w : World} {K : PySem.W.Frag} {elts : List Expr} {kk : Nat} {tpos : Pos} {a b c z TI TO i1 i2 i3 : Addr}
def St3 (a b c z TI TO i1 i2 i3 : Addr) (i : Nat) (h : Heap) : Prop := IsZip h z TI TO .none ∧ IsTupOf3 h TI (.ref i1) (.ref i2) (.ref i3) ∧ (∃ x y u, IsTupOf3 h TO x y u) ∧ h.IsListIter i1 a i ∧ h.IsListIter i2 b i ∧ h.IsListIter i3 c i
theorem turn_zip3 (D : ZipSep3 z TI TO i1 i2 i3 [i1, a] [i2, b] [i3, c]) (ha : a ≠ i1) (hb : b ≠ i2) (hc3 : c ≠ i3) :
    Turn P w K (.Tuple elts kk tpos) (Itz3 K a b c) [z, TI, TO, i1, i2, i3] z (St3 a b c z TI TO i1 i2 i3) where
  mem := by simp
  obj := fun i h st q hq => by
    obtain ⟨hz, hTI, ⟨x, y, u, hTO⟩, ⟨o1, e1, _, d1⟩, ⟨o2, e2, _, d2⟩, ⟨o3, e3, _, d3⟩⟩ := st
    simp only [List.mem_cons, List.not_mem_nil, or_false] at hq
    rcases hq with rfl | rfl | rfl | rfl | rfl | rfl
    · exact ⟨_, hz, fun v q => nomatch q⟩
    · exact ⟨_, hTI, fun v q => nomatch q⟩
    · exact ⟨_, hTO, fun v q => nomatch q⟩
    · exact ⟨o1, e1, fun v q => by rw [d1] at q; cases q⟩
    · exact ⟨o2, e2, fun v q => by rw [d2] at q; cases q⟩
    · exact ⟨o3, e3, fun v q => by rw [d3] at q; cases q⟩
  keep := fun i h h' st k => by
    obtain ⟨hz, hTI, ⟨x, y, u, hTO⟩, h1, h2, h3⟩ := st
    exact ⟨k z (by simp) _ hz, k TI (by simp) _ hTI, ⟨x, y, u, k TO (by simp) _ hTO⟩, h1.at fun o q => k i1 (by simp) o q, h2.at fun o q => k i2 (by simp) o q, h3.at fun o q => k i3 (by simp) o q⟩
  item := by
    intro X hP hw hK hcm i pins s σ H E I hf st hg
    subst hP hw hK
    obtain ⟨hz, hTI, hTO, h1, h2, h3⟩ := st
    obtain ⟨xs, ys, zs, hqx, hqy, hqz, lx, ly, lz⟩ := hg
    obtain ⟨its, rv, p, _⟩ := I.list hqx
    obtain ⟨its2, rv2, p2, _⟩ := I.list hqy
    obtain ⟨its3, rv3, p3, _⟩ := I.list hqz
    have n1 := rv.length
    have n2 := rv2.length
    have n3 := rv3.length
    have hh : X.A.in1.handled = none := I.ok.hd hcm
    have WT := WalksT.zipD3 D (Draws.list (prog := X.prog) (w := X.w) hh i1 a ha its.toArray) (Draws.list (prog := X.prog) (w := X.w) hh i2 b hb its2.toArray) (Draws.list (prog := X.prog) (w := X.w) hh i3 c hc3 its3.toArray)
    have hlt : ∀ q ∈ [z, TI, TO, i1, i2, i3], q < s.heap.objs.size := fun q hq => by
      obtain ⟨x, y, u, hTO'⟩ := hTO
      obtain ⟨_, e1, _⟩ := h1
      obtain ⟨_, e2, _⟩ := h2
      obtain ⟨_, e3, _⟩ := h3
      simp only [List.mem_cons, List.not_mem_nil, or_false] at hq
      rcases hq with rfl | rfl | rfl | rfl | rfl | rfl
      · exact Heap.lt_size hz
      · exact Heap.lt_size hTI
      · exact Heap.lt_size hTO'
      · exact Heap.lt_size e1
      · exact Heap.lt_size e2
      · exact Heap.lt_size e3
    refine WT.item i s _ E (by simp; omega) ⟨hz, hTI, hTO, ⟨h1, p.isList⟩, ⟨h2, p2.isList⟩, h3, p3.isList⟩ fun T vals h' tk hP hT hIs hM hk => ⟨_, rfl, ?_⟩
    have hTw := WT.apart _ _ _ hM
    refine WT.go elts kk tpos i T { s with heap := h', toks := tk } _ E hM fun h'' hSt hk2 => ?_
    obtain ⟨u1, u2, u3, g1, g2, g3, rfl⟩ := hP
    obtain ⟨x, hx⟩ : ∃ x, xs[i]? = some x := ⟨xs[i], List.getElem?_eq_getElem lx⟩
    obtain ⟨y, hy⟩ : ∃ x, ys[i]? = some x := ⟨ys[i], List.getElem?_eq_getElem ly⟩
    obtain ⟨zz, hzz⟩ : ∃ x, zs[i]? = some x := ⟨zs[i], List.getElem?_eq_getElem lz⟩
    have gx : ∀ {l : List V} {us : List Value} {x : V} {u : Value}, Vals l us → l[i]? = some x → us.toArray[i]? = some u → RelV x u := fun r e1 e2 => by
      obtain ⟨u', e3, q⟩ := r.get e1
      rw [List.getElem?_toArray, e3] at e2
      cases e2
      exact q
    have rx := gx rv hx g1
    have ry := gx rv2 hy g2
    have rz := gx rv3 hzz g3
    obtain ⟨o, ho, hcls, n, hdat⟩ := hIs
    have hT2 : h''.get? T = some o := hk2 T o hTw ho
    have new : ObjOk X.prog X.w (upd H T (.tup [x, y, zz])) h'' T (.tup [x, y, zz]) := ⟨by show 3 ≤ sizeLine; decide, [u1, u2, u3], .cons rx (.cons ry (.cons rz .nil)), ⟨o, hT2, hcls, n, hdat⟩⟩
    have inw : ∀ q, q ∉ [z, TI, TO, i1, i2, i3] → q ∉ [z, TO, i1, i2, i3] := fun q hq hm => hq (by
      simp only [List.mem_cons, List.not_mem_nil, or_false] at hm ⊢
      rcases hm with e | e | e | e | e <;> simp [e])
    have I1 : Inv X pins σ (upd H T (.tup [x, y, zz])) { s with heap := h'', toks := tk } :=
      I.turnedNew (t' := tk) (ch := [z, TI, TO, i1, i2, i3]) (fun q o hq e => hk2 q o (inw q hq) (hk q o (inw q hq) e)) hf hT new
    obtain ⟨z1, z2, z3, ⟨z4, _⟩, ⟨z5, _⟩, z6, _⟩ := hSt
    refine ⟨.ref T, _, I1, rfl, ⟨T, x, y, zz, rfl, I.hok.fresh hT, rfl, fun l hl => by rw [I.list_inj hl hqx]; exact hx, fun l hl => by rw [I.list_inj hl hqy]; exact hy, fun l hl => by rw [I.list_inj hl hqz]; exact hzz⟩, ⟨z1, z2, z3, z4, z5, z6⟩, fun q hq => ?_⟩
    rw [upd_ne (Nat.ne_of_lt (Nat.lt_of_lt_of_le (hlt q hq) hT))]
    exact (hf q hq).1
  done := by
    intro X hP hw hK hcm i pins s σ H E I hf st hg
    subst hP hw hK
    obtain ⟨hz, hTI, hTO, h1, h2, h3⟩ := st
    obtain ⟨xs, ys, zs, hqx, hqy, hqz, rfl⟩ := hg
    obtain ⟨its, rv, p, _⟩ := I.list hqx
    obtain ⟨its2, rv2, p2, _⟩ := I.list hqy
    obtain ⟨its3, rv3, p3, _⟩ := I.list hqz
    have hh : X.A.in1.handled = none := I.ok.hd hcm
    have WT := WalksT.zipD3 D (Draws.list (prog := X.prog) (w := X.w) hh i1 a ha its.toArray) (Draws.list (prog := X.prog) (w := X.w) hh i2 b hb its2.toArray) (Draws.list (prog := X.prog) (w := X.w) hh i3 c hc3 its3.toArray)
    have en : min (min xs.length ys.length) zs.length = min (min its.toArray.size its2.toArray.size) its3.toArray.size := by simp [rv.length, rv2.length, rv3.length]
    rw [en] at h1 h2 h3
    refine WT.done s _ E ⟨hz, hTI, hTO, ⟨h1, p.isList⟩, ⟨h2, p2.isList⟩, h3, p3.isList⟩ fun h' tk hk => ⟨rfl, ?_⟩
    have inw : ∀ q, q ∉ [z, TI, TO, i1, i2, i3] → q ∉ [z, TO, i1, i2, i3] := fun q hq hm => hq (by
      simp only [List.mem_cons, List.not_mem_nil, or_false] at hm ⊢
      rcases hm with e | e | e | e | e <;> simp [e])
    exact I.turnedL (t' := tk) (ch := [z, TI, TO, i1, i2, i3]) (fun q o hq e => hk q o (inw q hq) e) hf
  self := fun A i s Q E st h => wpAny_pyIter_zip st.1 h
end
section
variable {elts : List Expr} {kk : Nat} {tpos : Pos}
def iZip3 (K : PySem.W.Frag) (ta : TA) : TI := fun σ H R => ta σ H fun vs H1 => ∃ a b c xs ys zs, vs = [.ref a, .ref b, .ref c] ∧ SqL K H1 a xs ∧ SqL K H1 b ys ∧ SqL K H1 c zs ∧ R (Itz3 K a b c) H1
theorem pi_zip3 {X : Cx} {e e2 e3 : Expr} {ta : TA} {p pos : Pos} (hg : Gl X "zip") (hm : X.mg "zip" = none) (ha : PA X [e, e2, e3] ta)
    (hs : starEach [e, e2, e3] X.env = (false, eval e X.env) :: starEach [e2, e3] X.env := by rfl) (hpl : (backTo pos (starEach [e2, e3] X.env)).any (·.1) = false := by rfl) :
    PI X (.Tuple elts kk tpos) (.Call (.Name "zip" p) [e, e2, e3] [] pos) (iZip3 X.K ta) := by
  refine ⟨fun pins s σ H R I h => ?_⟩
  refine Call_ (ld_blt I hg hm PyProof.Rows.boot_zip (PyProof.Rows.callWith_type1 (thn (ha.run pos pins s σ H _ I h) fun us s1 ⟨vs, H1, I1, r1, q1⟩ => ?_) hs hpl))
  obtain ⟨a, b, c, xs, ys, zs, rfl, hqx, hqy, hqz, q⟩ := q1
  obtain ⟨u, ur, rfl, ru, r1⟩ : ∃ u ur, us = u :: ur ∧ RelV (.ref a) u ∧ Vals [.ref b, .ref c] ur := by cases r1 with | cons r rr => exact ⟨_, _, rfl, r, rr⟩
  obtain ⟨u2, ur2, rfl, ru2, r1⟩ : ∃ u ur', ur = u :: ur' ∧ RelV (.ref b) u ∧ Vals [.ref c] ur' := by cases r1 with | cons r rr => exact ⟨_, _, rfl, r, rr⟩
  obtain ⟨u3, rfl, ru3⟩ := vals1 r1
  cases ru
  cases ru2
  cases ru3
  obtain ⟨its, rv, p1, _⟩ := I1.list hqx
  obtain ⟨its2, rv2, p2, _⟩ := I1.list hqy
  obtain ⟨its3, rv3, p3, _⟩ := I1.list hqz
  have la : a < s1.heap.objs.size := p1.lt
  have lb : b < s1.heap.objs.size := p2.lt
  have lc : c < s1.heap.objs.size := p3.lt
  refine zip_begins3 (begins_list a its.toArray) (begins_list b its2.toArray) (begins_list c its3.toArray) p1.isList p2.isList p3.isList fun h' hz hTI hTO h1 h2 h3 hsz hk => wpAny_pyIter_zip hz ?_
  have I2 : Inv X pins σ H1 { s1 with heap := h' } := I1.kept (t' := s1.toks) hk
  have li : ∀ {it l : Addr}, h'.get? it = some { cls := .type "list_iterator", data := .fields #[.ref l, .int 0 0] } → h'.IsListIter it l 0 := fun e => ⟨_, e, rfl, rfl⟩
  have sep : ZipSep3 (s1.heap.objs.size + 5) (s1.heap.objs.size + 3) (s1.heap.objs.size + 4) s1.heap.objs.size (s1.heap.objs.size + 1) (s1.heap.objs.size + 2) [s1.heap.objs.size, a] [s1.heap.objs.size + 1, b] [s1.heap.objs.size + 2, c] := by
    have one : ∀ {x : Addr}, x < s1.heap.objs.size → ∀ y ∈ [x], y < s1.heap.objs.size := fun hx y hy => by rw [List.mem_singleton.mp hy]; exact hx
    have mem : ∀ {n k : Nat} {x : Addr}, x < s1.heap.objs.size → n ≠ k → s1.heap.objs.size + n ∉ [s1.heap.objs.size + k, x] := fun hx ne hm => by
      rcases List.mem_cons.mp hm with e | e
      · exact ne (Nat.add_left_cancel e)
      · have e := List.mem_singleton.mp e
        subst e
        exact absurd (Nat.lt_of_le_of_lt (Nat.le_add_right _ _) hx) (Nat.lt_irrefl _)
    exact {
      TIz := fun e => absurd (Nat.add_left_cancel e) (by decide), TOz := fun e => absurd (Nat.add_left_cancel e) (by decide), TITO := fun e => absurd (Nat.add_left_cancel e) (by decide),
      TIi1 := fun e => absurd (Nat.add_left_cancel (e.trans (Nat.add_zero _).symm)) (by decide), mem1 := List.mem_cons_self, zf1 := mem (k := 0) la (by decide), Tf1 := mem (k := 0) la (by decide),
      TIi2 := fun e => absurd (Nat.add_left_cancel e) (by decide), mem2 := List.mem_cons_self, zf2 := mem lb (by decide), Tf2 := mem lb (by decide),
      TIi3 := fun e => absurd (Nat.add_left_cancel e) (by decide), mem3 := List.mem_cons_self, zf3 := mem lc (by decide), Tf3 := mem lc (by decide),
      sep1_2 := mem (n := 0) lb (by decide), sep1_3 := mem (n := 0) lc (by decide), sep2_1 := mem (k := 0) la (by decide), sep2_3 := mem lc (by decide), sep3_1 := mem (k := 0) la (by decide), sep3_2 := mem lb (by decide) }
  refine ⟨s1.heap.objs.size + 5, [s1.heap.objs.size + 5, s1.heap.objs.size + 3, s1.heap.objs.size + 4, s1.heap.objs.size, s1.heap.objs.size + 1, s1.heap.objs.size + 2], _, _, H1, rfl, I2,
    turn_zip3 sep (Nat.ne_of_lt la) (Nat.ne_of_lt (Nat.lt_of_lt_of_le lb (Nat.le_add_right _ _))) (Nat.ne_of_lt (Nat.lt_of_lt_of_le lc (Nat.le_add_right _ _))), ⟨hz, hTI, ⟨_, _, _, hTO⟩, li h1, li h2, li h3⟩, fun q hq => ?_, q⟩
  have hle : s1.heap.objs.size ≤ q := by
    simp only [List.mem_cons, List.not_mem_nil, or_false] at hq
    rcases hq with rfl | rfl | rfl | rfl | rfl | rfl <;> first | exact Nat.le_refl _ | exact Nat.le_add_right _ _
  exact I1.fpOk hle (I1.hok.fresh hle)
end
/-- triples newly made -/
theorem triple_shr {K : PySem.W.Frag} {H H' : Hp} {S : Addr → Prop} {x y z : V} {t u w : T} {p : Addr} (hp : H p = none) (e : H' = upd H p (.tup [x, y, z])) (a : Shr K H S t x) (b : Shr K H S u y) (c : Shr K H S w z) : Same H H' ∧ Shr K H' (fresh S H) (.tup [t, u, w]) (.ref p) := by
  subst e
  have hs : Same H (upd H p (.tup [x, y, z])) := same_new hp
  exact ⟨hs, .tup0 upd_same (Owns.keep (fun _ z => .inl z) (Shrs.cons a (Shrs.cons b (Shrs.cons c .nil))) (.same hs))⟩
def zp3T : List T → List T → List T → List T
  | t :: ts, u :: us, w :: ws => .tup [t, u, w] :: zp3T ts us ws
  | _, _, _ => []
theorem zp3T_get : ∀ {ts us ws : List T} {i : Nat} {t : T}, (zp3T ts us ws)[i]? = some t ↔ ∃ a b c, ts[i]? = some a ∧ us[i]? = some b ∧ ws[i]? = some c ∧ t = .tup [a, b, c]
  | [], us, ws, i, t => by simp [zp3T]
  | _ :: _, [], ws, i, t => by simp [zp3T]
  | _ :: _, _ :: _, [], i, t => by simp [zp3T]
  | a :: ts, b :: us, c :: ws, 0, t => by simp [zp3T, eq_comm]
  | a :: ts, b :: us, c :: ws, i + 1, t => by
    rw [zp3T, List.getElem?_cons_succ, zp3T_get]
    simp
theorem zp3T_len : ∀ {ts us ws : List T}, (zp3T ts us ws).length = min (min ts.length us.length) ws.length
  | [], us, ws => by simp [zp3T]
  | _ :: _, [], ws => by simp [zp3T]
  | _ :: _, _ :: _, [] => by simp [zp3T]
  | a :: ts, b :: us, c :: ws => by
    rw [zp3T, List.length_cons, zp3T_len]
    simp only [List.length_cons]
    omega
theorem shrs3 {K : PySem.W.Frag} {S : Addr → Prop} {H : Hp} {t u w : T} {vs : List V} (h : Shrs K H S [t, u, w] vs) : ∃ v v2 v3, vs = [v, v2, v3] ∧ Shr K H S t v ∧ Shr K H S u v2 ∧ Shr K H S w v3 := by
  obtain ⟨v, r, rfl, a, b⟩ := h.uncons
  obtain ⟨v2, v3, rfl, c, d⟩ := shrs2 b
  exact ⟨_, _, _, rfl, a, c, d⟩
theorem ith_zip3 {K : PySem.W.Frag} {a b c : Addr} {ts us ws : List T} : ItH K (Itz3 K a b c) [.lst ts, .lst us, .lst ws] [.ref a, .ref b, .ref c] (zp3T ts us ws) := by
  have inv : ∀ {H S}, Shrs K H S [.lst ts, .lst us, .lst ws] [.ref a, .ref b, .ref c] → ∃ xs ys zs, SqL K H a xs ∧ Shrs K H S ts xs ∧ SqL K H b ys ∧ Shrs K H S us ys ∧ SqL K H c zs ∧ Shrs K H S ws zs := fun {H S} h => by
    obtain ⟨v, v2, v3, e, q, q2, q3⟩ := shrs3 h
    cases e
    obtain ⟨a', xs, e, q, r⟩ := shr_lst q
    cases e
    obtain ⟨a', ys, e, q2, r2⟩ := shr_lst q2
    cases e
    obtain ⟨a', zs, e, q3, r3⟩ := shr_lst q3
    cases e
    exact ⟨xs, ys, zs, q.sq, r, q2.sq, r2, q3.sq, r3⟩
  refine ⟨rfl, fun i H S h hi => ?_, fun H S h => ?_, fun i H S x H' hi h y => ?_⟩
  · obtain ⟨xs, ys, zs, q, r, q2, r2, q3, r3⟩ := inv h
    rw [zp3T_len] at hi
    have l1 := r.length
    have l2 := r2.length
    have l3 := r3.length
    exact ⟨xs, ys, zs, q, q2, q3, by omega, by omega, by omega⟩
  · obtain ⟨xs, ys, zs, q, r, q2, r2, q3, r3⟩ := inv h
    exact ⟨xs, ys, zs, q, q2, q3, by rw [zp3T_len, r.length, r2.length, r3.length]⟩
  · obtain ⟨xs, ys, zs, q, r, q2, r2, q3, r3⟩ := inv h
    rw [zp3T_len] at hi
    obtain ⟨p, x1, y1, z1, e1, e2, e3, e4, e5, e6⟩ := y
    have g1 : ts[i]? = some (ts[i]'(by omega)) := List.getElem?_eq_getElem (by omega)
    have g2 : us[i]? = some (us[i]'(by omega)) := List.getElem?_eq_getElem (by omega)
    have g3 : ws[i]? = some (ws[i]'(by omega)) := List.getElem?_eq_getElem (by omega)
    obtain ⟨v, h1, o1⟩ := r.get g1
    rw [e4 xs q] at h1; cases h1
    obtain ⟨v, h2, o2⟩ := r2.get g2
    rw [e5 ys q2] at h2; cases h2
    obtain ⟨v, h3, o3⟩ := r3.get g3
    rw [e6 zs q3] at h3; cases h3
    subst e1
    obtain ⟨a1, a2⟩ := triple_shr e2 e3 o1 o2 o3
    exact ⟨_, zp3T_get.mpr ⟨_, _, _, g1, g2, g3, rfl⟩, a1, a2⟩
section
variable {X : Cx} {a b c : Expr} {elts : List Expr} {kk : Nat} {tpos p pos : Pos} {vA : List Ent → (List T → List Ent → Prop) → Prop}
def iZp3 (vA : List Ent → (List T → List Ent → Prop) → Prop) : List Ent → (List T → List Ent → Prop) → Prop := fun ρ R => vA ρ fun ts ρ1 => match ts with
  | [.nd .lst us, .nd .lst ws, .nd .lst xs] => R (zp3T us ws xs) ρ1
  | _ => False
theorem ti_zip3 (hg : Gl X "zip") (hm : X.mg "zip" = none) (ha : TVA X [0, 0, 0] [a, b, c] vA) (hs : starEach [a, b, c] X.env = (false, eval a X.env) :: starEach [b, c] X.env := by rfl) (hpl : (backTo pos (starEach [b, c] X.env)).any (·.1) = false := by rfl) : TIt X (.Tuple elts kk tpos) (.Call (.Name "zip" p) [a, b, c] [] pos) (iZp3 vA) := by
  obtain ⟨ta, pa, ka⟩ := ha.ok
  refine ⟨⟨_, pi_zip3 hg hm pa hs hpl, fun f τ ρ σ H Q R h1 hw hq => ?_⟩⟩
  refine ka f τ ρ σ H _ _ h1 hw fun ts ρ1 vs ms H1 h2 hm s1 => ?_
  have em := s1.shm hm (by simp)
  subst em
  have hl : ts.length = vs.length := by rw [hm.lens.1, hm.lens.2]
  obtain ⟨S, sh⟩ := s1.shr1 hl
  split at h2
  · obtain ⟨v, v2, v3, rfl, x, x2, x3⟩ := shrs3 sh
    obtain ⟨a, vs, rfl, q, r⟩ := shr_lst x
    obtain ⟨b, ws, rfl, q2, r2⟩ := shr_lst x2
    obtain ⟨c, zs, rfl, q3, r3⟩ := shr_lst x3
    exact ⟨a, b, c, vs, ws, zs, rfl, q.sq, q2.sq, q3.sq, hq _ _ _ _ _ _ h2 ith_zip3 s1⟩
  · exact h2.elim
end
end TL
set_option Elab.async false
set_option linter.all false
set_option maxRecDepth 100000
namespace TL
open PySem PySem.Spec PyProof.Rows L2
/-! ### x[i][j] = e, x[i][j] op= e, x[i].append(e): an item of what x owns -/
section
variable {K : PySem.W.Frag} {f : Fm} {H H' : Hp} {τ : List Root} {ρ : List Ent} {σ : St} {k n q m : Nat} {ts us : List T}
structure KidAt (ρ : List Ent) (σ : St) (H : Hp) (k n q : Nat) (ts us : List T) (a b : Addr) (xs ws : List V) (e : Ent) : Prop where
  v : σ[k]? = some (some (.ref a))
  h : H a = some (.lst xs)
  l : xs.length = ts.length
  x : xs[q]? = some (.ref b)
  hb : H b = some (.lst ws)
  lb : ws.length = us.length
  ib : ∀ (r : Nat) (i : Int), us[r]? = some (.int i) → ws[r]? = some (.int i)
  he : ρ[k]? = some e
  ho : e.own = some (n + 2, .lst ts)
  w : Way H (.lst ts) (.ref a) [q] (.lst us) (.ref b)
theorem KidAt.same {a b : Addr} {xs ws : List V} {e : Ent} (h : KidAt ρ σ H k n q ts us a b xs ws e) (s : Same H H') : KidAt ρ σ H' k n q ts us a b xs ws e := ⟨h.v, s.lst h.h, h.l, h.x, s.lst h.hb, h.lb, h.ib, h.he, h.ho, h.w.same s⟩
theorem Sta.kid (s : Sta K f τ ρ σ H) (h : ownD ρ k = some (n + 1, .lst, ts)) (hq : ts[q]? = some (.nd .lst us)) : ∃ a b xs ws e, KidAt ρ σ H k n q ts us a b xs ws e := by
  obtain ⟨e, he, ho⟩ := ownD_at h
  obtain ⟨S, rs, s⟩ := s
  obtain ⟨r, g1, g2, g3, g4⟩ := s.get he
  obtain ⟨v0, e1, own⟩ := (s.good.slot k r g1).1.own (g2 ▸ ho)
  obtain ⟨a, xs, G, rfl, _, h1, r1⟩ := own_nlst own
  obtain ⟨v, hv⟩ := r1.get hq
  obtain ⟨G1, Fi, G2, _, o, _⟩ := r1.split hq hv
  obtain ⟨b, ws, G', rfl, _, h2, r2⟩ := own_nlst o
  exact ⟨a, b, xs, ws, e, by rw [g3, e1], h1, r1.length.symm, hv, h2, r2.length.symm, fun _ _ => r2.int, he, ho, .lst h1 hv hq .nil⟩
theorem KidAt.mut {a b : Addr} {xs ws : List V} {e : Ent} {t2 : T} {v2 : V} {F2 : List Addr} (h : KidAt ρ σ H k n q ts us a b xs ws e) (s : Sta K f (τ ++ [tmp m t2 v2 F2]) ρ σ H) (hf : fit n m t2) :
    (∀ i, i < us.length → Sta K f τ (putAt k [q] (us.set i t2) ρ) σ (upd H b (.lst (ws.set i v2)))) ∧ Sta K f τ (putAt k [q] (us ++ [t2]) ρ) σ (upd H b (.lst (ws ++ [v2]))) := by
  obtain ⟨vs, h1, _, _, h3, h4⟩ := s.mutL h.he h.ho h.v h.w (by simp) (by simpa using hf)
  rw [h.hb] at h1
  cases h1
  refine ⟨fun i hi => ?_, ?_⟩
  · rw [putAt_eq h.he h.ho]
    exact h3 i hi
  · rw [putAt_eq h.he h.ho]
    exact h4
theorem KidAt.atI {a b : Addr} {xs ws : List V} {e : Ent} {z : Int} (h : KidAt ρ σ H k n q ts us a b xs ws e) (hz : ixN ts.length z = some q) : L2.atI xs z = some (.ref b) := by
  unfold L2.atI
  rw [h.l, hz]
  exact h.x
end
section
variable {X : Cx} {W : WX} {e ie je : Expr} {pos p tpos spos : Pos} {w wi wj : List Ent → (T → Prop) → Prop} {v : List Ent → (Nat → T → List Ent → Prop) → Prop}
/-- the item q of what slot k owns -/
def kidT (ρ : List Ent) (k : Nat) (wi : List Ent → (T → Prop) → Prop) (R : Nat → Nat → List T → Prop) : Prop := match ownD ρ k with
  | some (n + 1, .lst, ts) => wi ρ fun t => match t with
    | .int z => match ixN ts.length z with
      | some q => match ts[q]? with
        | some (.nd .lst us) => R n q us
        | _ => False
      | none => False
    | _ => False
  | _ => False
def uSt2 (k : Nat) (v : List Ent → (Nat → T → List Ent → Prop) → Prop) (wi wj : List Ent → (T → Prop) → Prop) : TEnds → List Ent → Prop := fun De ρ => v ρ fun m t2 ρ1 => kidT ρ1 k wi fun n q us => wj ρ1 fun t => match t with
  | .int z => match ixN us.length z with
    | some r => fit n m t2 ∧ De.nx (putAt k [q] (us.set r t2) ρ1)
    | none => False
  | _ => False
theorem kid_read {f : Fm} {τ : List Root} {ρ : List Ent} {σ : St} {H : Hp} {k : Nat} {ti : TE} {R : Nat → Nat → List T → Prop} {Q : VK}
    (ki : ∀ (S : Addr → Prop) (ρ : List Ent) (σ : St) (H : Hp) (Q : VK) (R : T → Prop), RdS X.K S ρ σ H → wi ρ R → (∀ t v H', R t → Same H H' → Shr X.K H' (fresh S H) t v → Q v H') → ti σ H Q)
    (s : Sta X.K f τ ρ σ H) (h : kidT ρ k wi R) (hq : ∀ n q ts us a b xs ws e H', R n q us → Same H H' → KidAt ρ σ H' k n q ts us a b xs ws e → Q (.ref b) H') : tOp (rIx X.K) (tVar k) ti σ H Q := by
  unfold kidT at h
  split at h
  · rename_i n ts hk
    have hv : ∃ a, σ[k]? = some (some (.ref a)) := s.ownV hk
    obtain ⟨a, g1⟩ := hv
    refine ⟨.ref a, g1, ki _ ρ σ H _ _ s.rdAll h fun t iv H2 h3 sm x1 => ?_⟩
    split at h3
    · rename_i z
      split at h3
      · rename_i q hz
        split at h3
        · rename_i us hu
          obtain ⟨a', b, xs, ws, e, kd⟩ := (s.same sm).kid hk hu
          have ea := kd.v
          rw [g1] at ea
          cases ea
          exact .inl ⟨a, xs, z, .ref b, rfl, shr_int x1, SqL.of kd.h, kd.atI hz, hq n q ts us a b xs ws e H2 h3 sm kd⟩
        · exact h3.elim
      · exact h3.elim
    · exact h3.elim
  · exact h.elim
theorem ts_store2 (k : Nat) {x : Str} (he : TVE X e v) (hi : TPE X ie wi) (hj : TPE X je wj) (hpi : PlainIx ie := by intro _ _; rfl) (hN : X.N[k]? = some x := by rfl) (hv : Vis X.env.scope x := by first | exact Or.inl rfl | exact Or.inr (Or.inl rfl) | exact Or.inr (Or.inr rfl)) (hd : (x == ("__debug__" : Str)) = false := by decide)
    (hcd : (x == ("__classdict__" : Str)) = false := by decide) (hs : swapsWithSole [.Subscript (.Subscript (.Name x p) ie spos) je tpos] e pos.line X.env = pure false := by rfl) (hw : swappedStores [.Subscript (.Subscript (.Name x p) ie spos) je tpos] e X.env = pure none := by rfl)
    (h1 : (assignEach [.Subscript (.Subscript (.Name x p) ie spos) je tpos] X.env).map (·.2) = [assign (.Subscript (.Subscript (.Name x p) ie spos) je tpos) X.env] := by rfl)
    (ha : ∀ v, assign (.Subscript (.Subscript (.Name x p) ie spos) je tpos) X.env v = (do
      let ov ← holding [v] (eval (.Subscript (.Name x p) ie spos) X.env)
      let iv ← holding [v, ov] (eval je X.env)
      standAt tpos
      holding [v, ov, iv] (setItem ov iv v)
      release [v, ov, iv] []) := by intro _; rfl) : TS1 X W (.Assign [.Subscript (.Subscript (.Name x p) ie spos) je tpos] e pos) (uSt2 k v wi wj) := by
  obtain ⟨te, pe, ke⟩ := he.ok
  obtain ⟨ti, pi, ki⟩ := hi.ok
  obtain ⟨tj, pj, kj⟩ := hj.ok
  refine ⟨⟨_, ps_asg pe (pg_sub (pe_ix ix_seq (pe_var hN hv hd hcd) pi hpi) pj set_list ha) hs hw h1, fun f τ ρ σ H De D h1 hl hw => ?_⟩⟩
  refine ke f τ ρ σ H _ _ h1 hw fun m t2 ρ1 v2 F2 H1 h2 s1 => ?_
  refine kid_read ki s1 h2 fun n q ts us a b xs ws e H2 h3 sm kd => ?_
  have s2 := s1.same sm
  refine kj _ ρ1 σ H2 _ _ s2.rdAll h3 fun t iv H3 h4 sm2 x2 => ?_
  cases t using T.cs <;> first | exact h4.elim | skip
  rename_i z
  simp only at h4
  cases qz : ixN us.length z with
  | none => simp only [qz] at h4
  | some r =>
    simp only [qz] at h4
    have kd2 := kd.same sm2
    exact ⟨b, ws, z, r, rfl, shr_int x2, kd2.hb, by rw [kd2.lb]; exact qz, hl.nx _ σ _ h4.2 ((kd2.mut (s2.same sm2) h4.1).1 r (ixN_lt qz))⟩
def uAu2 (k : Nat) (g : Int → Int → Int) (wi wj w : List Ent → (T → Prop) → Prop) : TEnds → List Ent → Prop := fun De ρ => kidT ρ k wi fun n q us => wj ρ fun t => match t with
  | .int z => match ixN us.length z with
    | some r => match us[r]? with
      | some (.int old) => w ρ fun t => match t with
        | .int y => De.nx (putAt k [q] (us.set r (.int (g old y))) ρ)
        | _ => False
      | _ => False
    | none => False
  | _ => False
theorem ts_aug2 (k : Nat) {x : Str} {op : Operator} {g : Int → Int → Int} (hop : PIp X op (ipI g)) (hi : TPE X ie wi) (hj : TPE X je wj) (he : TPE X e w) (hpi : PlainIx ie := by intro _ _; rfl) (hN : X.N[k]? = some x := by rfl) (hv : Vis X.env.scope x := by first | exact Or.inl rfl | exact Or.inr (Or.inl rfl) | exact Or.inr (Or.inr rfl)) (hd : (x == ("__debug__" : Str)) = false := by decide)
    (hcd : (x == ("__classdict__" : Str)) = false := by decide)
    (ha : ∀ ov iv new, augStore je ov iv new = (do holding [new, ov, iv] (setItem ov iv new); release [new, ov, iv] []; pure .next) := by intros; rfl) : TS1 X W (.AugAssign (.Subscript (.Subscript (.Name x p) ie spos) je tpos) op e pos) (uAu2 k g wi wj w) := by
  obtain ⟨te, pe, ke⟩ := he.ok
  obtain ⟨ti, pi, ki⟩ := hi.ok
  obtain ⟨tj, pj, kj⟩ := hj.ok
  refine ⟨⟨_, ps_augS (pe_ix ix_seq (pe_var hN hv hd hcd) pi hpi) pj get_list pe hop set_list ha, fun f τ ρ σ H De D h1 hl hw => ?_⟩⟩
  refine kid_read ki h1 hw fun n q ts us a b xs ws e H2 h3 sm kd => ?_
  have s2 := h1.same sm
  refine kj _ ρ σ H2 _ _ s2.rdAll h3 fun t iv H3 h4 sm2 x2 => ?_
  cases t using T.cs <;> first | exact h4.elim | skip
  rename_i z
  simp only at h4
  cases qz : ixN us.length z with
  | none => simp only [qz] at h4
  | some r =>
    simp only [qz] at h4
    split at h4
    · rename_i old ho
      have kd2 := kd.same sm2
      have s3 := s2.same sm2
      have iv' := shr_int x2
      subst iv'
      refine ⟨b, ws, z, .int old, rfl, rfl, kd2.hb, by unfold atI; rw [kd2.lb, qz]; exact kd2.ib r old ho, ke _ ρ σ H3 _ _ s3.rdAll h4 fun t v3 H4 h5 sm3 x3 => ?_⟩
      cases t using T.cs <;> first | exact h5.elim | skip
      rename_i yv
      have kd3 := kd2.same sm3
      obtain ⟨S, rs, s4⟩ := s3.same sm3
      have s5 : Sta X.K f (τ ++ [tmp 0 (.int (g old yv)) (.int (g old yv)) []]) ρ σ H4 := ⟨S, rs, s4.pushS (.int _)⟩
      exact ⟨old, yv, rfl, shr_int x3, b, ws, z, r, rfl, rfl, kd3.hb, by rw [kd3.lb]; exact qz, hl.nx _ σ _ h5 ((kd3.mut s5 (.inr rfl)).1 r (ixN_lt qz))⟩
    · exact h4.elim
def uAp2 (k : Nat) (wi w : List Ent → (T → Prop) → Prop) : TEnds → List Ent → Prop := fun De ρ => kidT ρ k wi fun n q us => us.length < 1000000 ∧ w ρ fun t2 => t2.flat = true ∧ De.nx (putAt k [q] (us ++ [t2]) ρ)
theorem ts_app2 (k : Nat) {x : Str} {apos cpos : Pos} (hi : TPE X ie wi) (he : TPE X e w) (hpi : PlainIx ie := by intro _ _; rfl) (hN : X.N[k]? = some x := by rfl) (hv : Vis X.env.scope x := by first | exact Or.inl rfl | exact Or.inr (Or.inl rfl) | exact Or.inr (Or.inr rfl)) (hd : (x == ("__debug__" : Str)) = false := by decide)
    (hcd : (x == ("__classdict__" : Str)) = false := by decide) (hsw : swapsWith (.Call (.Attribute (.Subscript (.Name x p) ie spos) "append" apos) [e] [] cpos) none pos.line X.env = pure false := by rfl)
    (hbase : attributeBase (.Subscript (.Name x p) ie spos) "append" X.env (eval (.Subscript (.Name x p) ie spos) X.env) = eval (.Subscript (.Name x p) ie spos) X.env := by rfl)
    (hfew : ((backTo cpos (starEach [e] X.env)).all (fun x => !x.1) && (backToKw cpos (keywordEach [] X.env)).all (fun x => x.1.isSome)
      && decide ([e].length + ([] : List Keyword).length + (if ([] : List Keyword).isEmpty then 0 else 1) < 30)) = true := by rfl)
    (hline : (apos.endLine == cpos.line) = true := by rfl) (hs : starEach [e] X.env = (false, eval e X.env) :: starEach [] X.env := by rfl) (hplain : (backTo cpos (starEach [] X.env)).any (·.1) = false := by rfl) :
    TS1 X W (.Expr (.Call (.Attribute (.Subscript (.Name x p) ie spos) "append" apos) [e] [] cpos) pos) (uAp2 k wi w) := by
  obtain ⟨te, pe, ke⟩ := he.ok
  obtain ⟨ti, pi, ki⟩ := hi.ok
  refine ⟨⟨_, ps_expr (pe_bm PySem.F.plainAttrs_list PySem.F.slot_list_append PySem.F.type_list_append mt_append (pe_ix ix_seq (pe_var hN hv hd hcd) pi hpi) (pa_cons pe pa_nil hs) hbase hfew hline hs hplain) hsw, fun f τ ρ σ H De D h1 hl hw => ?_⟩⟩
  refine kid_read ki h1 hw fun n q ts us a b xs ws e H2 h3 sm kd => ?_
  have s2 := h1.same sm
  refine ⟨.inl ⟨rfl, ws, SqL.of kd.hb⟩, ke _ ρ σ H2 _ _ s2.rdAll h3.2 fun t2 v2 H3 h4 sm2 x2 => ?_⟩
  have kd2 := kd.same sm2
  obtain ⟨S, rs, s3⟩ := s2.same sm2
  have s4 : Sta X.K f (τ ++ [tmp 0 t2 v2 []]) ρ σ H3 := ⟨S, rs, s3.pushS ((x2.flat0 h4.1).2 0 S)⟩
  exact ⟨b, ws, v2, rfl, rfl, kd2.hb, by rw [kd2.lb]; exact Nat.lt_of_lt_of_le h3.1 million, hl.nx _ σ _ h4.2 ((kd2.mut s4 (.inr h4.1)).2)⟩
/-- range of a number that is reckoned with changes -/
def iRngV (v : List Ent → (Nat → T → List Ent → Prop) → Prop) : List Ent → (List T → List Ent → Prop) → Prop := fun ρ R => v ρ fun _ t ρ1 => match t with
  | .int j => -(2 ^ 62) ≤ j ∧ j < 2 ^ 62 ∧ R (rgT 0 j.toNat) ρ1
  | _ => False
theorem ti_rngV {tg a : Expr} {va : List Ent → (Nat → T → List Ent → Prop) → Prop} (hg : Gl X "range") (hm : X.mg "range" = none) (ha : TVE X a va) (hs : starEach [a] X.env = [(false, eval a X.env)] := by rfl) : TIt X tg (.Call (.Name "range" p) [a] [] pos) (iRngV va) := by
  obtain ⟨ta, pa, ka⟩ := ha.ok
  refine ⟨⟨_, pi_range1 hg hm (pa_cons pa pa_nil hs) hs, fun f τ ρ σ H Q R h1 hw hq => ?_⟩⟩
  refine ka f τ ρ σ H _ _ h1 hw fun n t ρ1 v F H1 h2 s1 => ?_
  cases t using T.cs <;> first | exact h2.elim | skip
  rename_i j
  have e := shr_int s1.last2
  subst e
  exact ⟨j, rfl, h2.1, h2.2.1, hq _ [] [] _ _ _ h2.2.2 ith_rng (by rw [show shRoots [] [] = [] from rfl, List.append_nil]; exact s1.pop)⟩
end
end TL
set_option Elab.async false
set_option linter.all false
set_option maxRecDepth 100000
namespace TL
open PySem PySem.Spec PyProof.Rows L2
/-! ### str(i), tuple(x), dict(d) -/
section
variable {K : PySem.W.Frag}
def gStrI : List T → (T → Prop) → Prop := fun ts R => match ts with
  | [.int i] => i.natAbs.log2 < 1920 ∧ R (.str (toString i))
  | _ => False
theorem caT_strI : CaT K (fun xs H Q => ∃ i, xs = [.int i] ∧ i.natAbs.log2 < 1920 ∧ Q (.str (toString i)) H) gStrI := by
  intro S H xs ts Q R h hg hq
  unfold gStrI at hg
  split at hg
  · obtain ⟨v, rfl, a⟩ := shrs1 h
    rw [shr_int a]
    exact ⟨_, rfl, hg.1, hq _ _ _ hg.2 (Same.refl H) (.str _)⟩
  · exact hg.elim
def gTupl : List T → (T → Prop) → Prop := fun ts R => match ts with
  | [.nd .lst us] => R (.tup us)
  | [.tup us] => R (.tup us)
  | _ => False
theorem caT_tuple : CaT K (fun xs H Q => ∃ p ys, xs = [.ref p] ∧ ((SqL K H p ys ∧ ∀ l, H l = none → Q (.ref l) (upd H l (.tup ys))) ∨ (SqT K H p ys ∧ Q (.ref p) H))) gTupl := by
  intro S H xs ts Q R h hg hq
  unfold gTupl at hg
  split at hg
  · obtain ⟨v, rfl, a⟩ := shrs1 h
    obtain ⟨p, vs, rfl, q, r⟩ := shr_lst a
    exact ⟨p, vs, rfl, .inl ⟨q.sq, fun l hl => hq _ _ _ hg (same_new hl) (.tup0 upd_same (Owns.keep (fun _ z => .inl z) r (.same (same_new hl))))⟩⟩
  · obtain ⟨v, rfl, a⟩ := shrs1 h
    have a' := a
    obtain ⟨p, vs, rfl, q, r⟩ := shr_tup a
    exact ⟨p, vs, rfl, .inr ⟨q, hq _ _ _ hg (Same.refl H) (a'.mono fun _ => .inl)⟩⟩
  · exact hg.elim
def gDict : List T → (T → Prop) → Prop := fun ts R => match ts with
  | [.nd (.dK ks) us] => R (.nd (.dK ks) us)
  | _ => False
theorem caT_dict : CaT K (fun xs H Q => ∃ (a : Addr) (kvs : List (Key × V)), xs = [.ref a] ∧ Rd H a (.dK kvs) ∧ ∀ p, H p = none → Q (.ref p) (upd H p (.dK kvs))) gDict := by
  intro S H xs ts Q R h hg hq
  unfold gDict at hg
  split at hg
  · rename_i ks us
    obtain ⟨v, rfl, a⟩ := shrs1 h
    obtain ⟨p, vs, rfl, ⟨o, i, q⟩, r⟩ := shr_nd a
    have i' := i
    obtain ⟨hl, hn, rfl⟩ := i
    have rd : Rd H p (.dK (ks.zip vs)) := by
      rcases q with ⟨q, _⟩ | ⟨_, z, q⟩
      · exact .inl q
      · exact .inr ⟨z, q⟩
    exact ⟨p, _, rfl, rd, fun l hl => hq _ _ _ hg (same_new hl) (.snd ⟨_, i', .inl ⟨upd_same, .inr hl⟩⟩ (Owns.keep (fun _ z => .inl z) r (.same (same_new hl))))⟩
  · exact hg.elim
end
/-! ### owned less deep from now on -/
def demK (k : Nat) (js : List Nat) (ρ : List Ent) : List Ent := js.foldl (fun (ρ : List Ent) (j : Nat) => match ρ[j]? with
  | some (Ent.ow n t) => if k ≤ n then setE ρ j (Ent.ow k t) else ρ
  | _ => ρ) ρ
theorem Sta.demTo {K : PySem.W.Frag} {f : Fm} {τ : List Root} {ρ : List Ent} {σ : St} {H : Hp} (s : Sta K f τ ρ σ H) {j n k : Nat} {t : T} (he : ρ[j]? = some (.ow n t)) (hk : k ≤ n) : Sta K f τ (setE ρ j (.ow k t)) σ H := by
  obtain ⟨S, rs, s⟩ := s
  obtain ⟨v, F, rs', h1, s'⟩ := s.moveV he
  obtain ⟨F', S', _, s''⟩ := s'.fitV (k := k) (.inl hk)
  have hj : j < (setE ρ j .no).length := by rw [setE_len]; exact (List.getElem?_eq_some_iff.mp he).1
  have z := s''.setV (i := j) hj
  have e1 : setE (setE ρ j .no) j (.ow k t) = setE ρ j (.ow k t) := by
    unfold setE killA
    rw [List.map_set, List.map_map, List.set_set]
    congr 1
    refine List.map_congr_left fun x _ => ?_
    show noAl j (noAl j x) = noAl j x
    rcases noAl_cases j x with h | ⟨k, t, h, h2⟩
    · rw [h, h]
    · rw [h2]; rfl
  rw [e1, set_self h1] at z
  exact ⟨S', _, z⟩
theorem Sta.demKs {K : PySem.W.Frag} {f : Fm} {τ : List Root} {σ : St} {H : Hp} {k : Nat} : ∀ (js : List Nat) {ρ : List Ent}, Sta K f τ ρ σ H → Sta K f τ (demK k js ρ) σ H
  | [], _, s => s
  | j :: js, ρ, s => by
    unfold demK
    rw [List.foldl_cons]
    refine Sta.demKs js ?_
    split
    · rename_i n t he
      split
      · rename_i hk
        exact s.demTo he hk
      · exact s
    · exact s
def uDemK (k : Nat) (js : List Nat) (u : TEnds → List Ent → Prop) : TEnds → List Ent → Prop := fun De ρ => u De (demK k js ρ)
theorem ts1_demK {X : Cx} {W : WX} {st : Stmt} {u : TEnds → List Ent → Prop} (k : Nat) (js : List Nat) (h : TS1 X W st u) : TS1 X W st (uDemK k js u) := by
  obtain ⟨t1, p1, k1⟩ := h.ok
  exact ⟨⟨_, p1, fun f τ ρ σ H De D hs hl hw => k1 f τ _ σ H De D (hs.demKs js) hl hw⟩⟩
/-! ### an item, shared, of what slot j owns one deep -/
section
variable {X : Cx} {a b c : Expr} {pos apos p : Pos} {wa wb wc : List Ent → (T → Prop) → Prop}
def vKL (j : Nat) (wb : List Ent → (T → Prop) → Prop) : List Ent → (Nat → T → List Ent → Prop) → Prop := fun ρ R => match kidsOf ρ j with
  | some (.lst, us) => wb ρ fun u => match u with
    | .int i => match atI us i with
      | some z => R 0 z ρ
      | none => False
    | _ => False
  | _ => False
theorem tv_kl (j : Nat) {x : Str} (hb : TPE X b wb) (hs : PlainIx b := by intro _ _; rfl) (hN : X.N[j]? = some x := by rfl) (hv : Vis X.env.scope x := by first | exact Or.inl rfl | exact Or.inr (Or.inl rfl) | exact Or.inr (Or.inr rfl)) (hd : (x == ("__debug__" : Str)) = false := by decide)
    (hcd : (x == ("__classdict__" : Str)) = false := by decide) : TVE X (.Subscript (.Name x p) b pos) (vKL j wb) := by
  obtain ⟨tb, pb, kb⟩ := hb.ok
  refine ⟨⟨_, pe_ix ix_seq (pe_var hN hv hd hcd) pb hs, fun f τ ρ σ H Q R h1 hw hq => ?_⟩⟩
  unfold vKL at hw
  split at hw
  · rename_i us hk
    obtain ⟨S, rs, s⟩ := h1
    obtain ⟨a, o, vs, g1, _, _, _⟩ := kids_at s hk
    refine ⟨.ref a, g1, kb _ ρ σ H _ _ s.rdAll hw fun u v2 H2 h2 s2 x2 => ?_⟩
    have s3 := s.grow s2
    obtain ⟨a', o', vs', g1', g2, i, r⟩ := kids_at s3 hk
    rw [g1] at g1'
    cases g1'
    have i : o' = .lst vs' := i
    subst i
    cases u using T.cs <;> first | exact h2.elim | skip
    rename_i z
    simp only at h2
    split at h2
    · rename_i t e
      obtain ⟨vz, e1, e2⟩ := shrs_at r e
      exact .inl ⟨a, vs', z, vz, rfl, shr_int x2, SqL.of g2, e1, hq 0 t ρ vz [] H2 h2 ⟨_, rs, s3.pushS e2⟩⟩
    · exact h2.elim
  · exact hw.elim
end
end TL
set_option Elab.async false
set_option linter.all false
set_option maxRecDepth 100000
namespace TL
open PySem PySem.Spec PyProof.Rows L2
/-! ### f(x, e): x changed, e only read (whatever owns it), a flat result -/
/-- all but slot i, to be read -/
def rdE (i : Nat) (ρ : List Ent) : List Ent := (ρ.map noRA).set i .no
theorem StaW.rdBut {K : PySem.W.Frag} {f : Fm} {τ rs : List Root} {ρ : List Ent} {σ : St} {H : Hp} {S : Addr → Prop} (s : StaW K f τ ρ σ H S rs) {i : Nat} {r : Root} (hr : (rs ++ τ)[i]? = some r) : RdS K (fun a => a ∉ r.F) (rdE i ρ) σ H := ⟨s.good.tb, fun j e t h1 h2 => by
  unfold rdE at h1
  by_cases hj : j = i
  · subst hj
    rw [List.getElem?_set] at h1
    by_cases hl : j < (ρ.map noRA).length
    · rw [if_pos rfl, if_pos hl] at h1
      cases h1
      cases h2
    · rw [if_pos rfl, if_neg hl] at h1
      cases h1
  · rw [List.getElem?_set_ne (Ne.symm hj), List.getElem?_map] at h1
    cases q : ρ[j]? with
    | none => rw [q] at h1; cases h1
    | some e0 =>
      rw [q] at h1
      have h1 := (Option.some.inj h1).symm
      subst h1
      obtain ⟨r2, q1, q2, q3, _⟩ := s.get q
      have z := (s.good.slot j r2 q1)
      have fin : ∀ {n : Nat} {u : T}, e0.own = some (n, u) → u = t → ∃ v, σ[j]? = some (some v) ∧ Shr K H (fun a => a ∉ r.F) t v := fun {n u} ho eu => by
        subst eu
        obtain ⟨v, ev, own⟩ := z.1.own (by rw [q2]; exact ho)
        exact ⟨v, by rw [q3, ev], own.shr (fun a ha hm => ((s.good.slot i r hr).2.2 a hm).1 ha) fun a ha hm => s.good.dj j i r2 r q1 hr hj a ha hm⟩
      cases e0 with
      | no => cases h2
      | ow n u => cases h2; exact fin rfl rfl
      | io n u => cases h2; exact fin rfl rfl
      | ro u => cases h2
      | al _ _ _ => cases h2⟩
section
variable {X : Cx} {e a b : Expr} {pos p p2 : Pos} {w wb : List Ent → (T → Prop) → Prop}
def lendAt (W : FnT) (i : Nat) (en : Ent) (pool : T) (ρ : List Ent) (R : Nat → T → List Ent → Prop) (_ : KDep R) (t : T) : Prop := W [pool, t] fun _ z outs => z.flat = true ∧ match outs with
  | [pool'] => pool'.flatAt 1 = true ∧ R 0 z ((ρ.map noRA).set i (en.put pool'))
  | _ => False
def vLend (i : Nat) (W : FnT) (wb : List Ent → (T → Prop) → Prop) : List Ent → (Nat → T → List Ent → Prop) → Prop := fun ρ R => match ρ[i]? with
  | some en => match en.own with
    | some (1, pool) => pool.flatAt 1 = true ∧ wb (rdE i ρ) (lendAt W i en pool ρ R ())
    | _ => False
  | none => False
/-- behind the call: slot i anew, all else as it was -/
theorem StaW.lent {K : PySem.W.Frag} {f : Fm} {τ rs : List Root} {ρ : List Ent} {σ : St} {H H' : Hp} {S : Addr → Prop} (s : StaW K f τ ρ σ H S rs) {i : Nat} {en : Ent} {pool pool' : T} {F' : List Addr} {v : V} (he : ρ[i]? = some en) (ho : en.own = some (1, pool)) (hv : σ[i]? = some (some v))
    {r : Root} (hr : (rs ++ τ)[i]? = some r) (fr : ∀ a o, H a = some o → a ∉ r.F → Stay o (H' a)) (tb : TbOk H') (own : ∀ S' : Addr → Prop, Own K H' S' 1 pool' v F') (nd : F'.Nodup) (nF : ∀ a ∈ F', H a = none ∨ a ∈ r.F) :
    ∃ rs', StaW K f τ ((ρ.map noRA).set i (en.put pool')) σ H' S rs' := by
  have s0 := s.wk noRA noRA_cases noRA_own
  obtain ⟨r0, g1, g2, g3, g4⟩ := s.get he
  rw [hr] at g1
  cases g1
  have hi : i < rs.length := (List.getElem?_eq_some_iff.mp g4).1
  generalize hrs : (rs.map fun r => (⟨noRA r.e, r.o, if (noRA r.e).tr.isSome then r.F else []⟩ : Root)) = rs0 at s0
  have hl : rs0.length = rs.length := by rw [← hrs, List.length_map]
  have hen : noRA r.e = r.e := noRA_own _ (by rw [g2, ho]; exact fun z => nomatch z)
  have etr : (noRA r.e).tr.isSome = true := by
    rw [hen, g2]
    cases en <;> first | rfl | cases ho
  have hr0 : rs0[i]? = some r := by
    rw [← hrs, List.getElem?_map, g4]
    show some (⟨noRA r.e, r.o, if (noRA r.e).tr.isSome = true then r.F else []⟩ : Root) = some r
    rw [if_pos etr, hen]
  have hk : (rs0.set i (⟨en.put pool', r.o, F'⟩ : Root) ++ τ)[i]? = some ⟨en.put pool', r.o, F'⟩ := by
    rw [List.getElem?_append_left (by rw [List.length_set]; omega), List.getElem?_set_self (by omega)]
  have old : ∀ m q, m ≠ i → (rs0.set i (⟨en.put pool', r.o, F'⟩ : Root) ++ τ)[m]? = some q → (rs0 ++ τ)[m]? = some q := fun m q hm h => by
    by_cases hml : m < rs0.length
    · rw [List.getElem?_append_left (by rw [List.length_set]; exact hml), List.getElem?_set_ne (Ne.symm hm)] at h
      rw [List.getElem?_append_left hml]
      exact h
    · rw [List.getElem?_append_right (by rw [List.length_set]; omega), List.length_set] at h
      rw [List.getElem?_append_right (by omega)]
      exact h
  have hr0' : (rs0 ++ τ)[i]? = some r := by rw [List.getElem?_append_left (by omega)]; exact hr0
  have far : ∀ m q, m ≠ i → (rs0 ++ τ)[m]? = some q → ∀ a ∈ q.F, a ∉ r.F := fun m q hm h a ha hb => s0.good.dj m i q r h hr0' hm a ha hb
  refine ⟨rs0.set i ⟨en.put pool', r.o, F'⟩, ?_, ?_, ?_, fun k j i' t h => ?_, fun k n t h => ?_, s.tm⟩
  · rw [List.map_set, s0.e]
  · rw [List.map_set, s0.o]
    exact set_self g3
  · have so : r.o = some v := by rw [hv] at g3; exact (Option.some.inj g3).symm
    refine s0.good.repl (fun m => m) i hk (fun m q hm h => .inr (old m q hm h)) (fun _ _ _ _ _ _ _ _ _ _ z => z) ?_ nd (fun a ha => ?_) (fun a ha m q hm h h0 hq => ?_) (fun _ z => z) (fun m q hm _ h a ha => ((s0.good.slot m q h).2.2 a ha).1)
      (fun m q hm _ h => ?_) (fun a ha z => ?_) (fun a o h1 h2 => ?_) tb s0.good.src
    · show SlotR K H' S (en.put pool') r.o F'
      rw [so]
      exact slot_put ho (own S)
    · rcases nF a ha with z | z
      · exact ⟨fun y => s0.good.trk a y z, s0.good.none_src z⟩
      · exact (s0.good.slot i r hr0').2.2 a z
    · rcases nF a ha with z | z
      · obtain ⟨o, y⟩ := s0.good.own_there h0 hq
        rw [z] at y
        cases y
      · exact far m q hm h0 a hq z
    · have kp : ∀ (S0 : Addr → Prop) (G : List Addr), (∀ a, S0 a → a ∉ r.F) → (∀ a ∈ G, a ∉ r.F) → Kp H H' S0 G := fun S0 G h1 h2 => by
        have nt : ∀ a o, H a = some o → ((∃ xs, o = .tup xs) ∨ ∃ ob u, o = .frz ob u) → a ∉ r.F := fun a o e h m => by
          obtain ⟨n1, n2⟩ := s0.good.own_nt hr0' m e
          rcases h with ⟨xs, rfl⟩ | ⟨ob, u, rfl⟩
          · exact n1 _ rfl
          · exact n2 _ _ rfl
        exact ⟨fun a xs e => (fr a _ e (nt a _ e (.inl ⟨_, rfl⟩))).nt nt_tup.1, fun a o u e => (fr a _ e (nt a _ e (.inr ⟨_, _, rfl⟩))).nt nt_frz.1, fun a o hs n e => (fr a o e (hs.elim (h1 a) (h2 a))).nt n.1, fun a φ e => (fr a _ e fun m => (s0.good.own_nx hr0' m e).2 _ rfl).nt (fun _ z => nomatch z)⟩
      refine ⟨kp S q.F (fun a ha hm => ((s0.good.slot i r hr0').2.2 a hm).1 ha) (far m q hm h), fun t e => ?_⟩
      exfalso
      have hq : ∃ x, q.e = noRA x ∨ ∃ n t, q.e = .ow n t := by
        by_cases hml : m < rs0.length
        · rw [List.getElem?_append_left hml, ← hrs, List.getElem?_map] at h
          cases c : rs[m]? with
          | none => rw [c] at h; cases h
          | some q0 => rw [c] at h; cases h; exact ⟨q0.e, .inl rfl⟩
        · rw [List.getElem?_append_right (by omega)] at h
          obtain ⟨n, t, e⟩ := s.tm q (List.mem_of_getElem? h)
          exact ⟨.no, .inr ⟨n, t, e⟩⟩
      obtain ⟨x, hx | ⟨n, t', hx⟩⟩ := hq
      · rw [e] at hx
        cases x <;> cases hx
      · rw [e] at hx
        cases hx
    · obtain ⟨o, e⟩ : ∃ o : HO, H a = some o := by
        cases c : H a with
        | none => exact absurd c (s0.good.trk a ha)
        | some o => exact ⟨o, rfl⟩
      exact (fr a o e (fun hm => ((s0.good.slot i r hr0').2.2 a hm).1 ha)).sm z
    · refine (s0.good.fr a o h1 h2).trans fun u hu => fr a u hu fun hm => ?_
      rcases ((s0.good.slot i r hr0').2.2 a hm).2 with z | z
      · rw [h1] at z; cases z
      · exact h2 z
  · exfalso
    by_cases hk' : k = i
    · subst hk'
      rw [List.getElem?_set_self (by rw [List.length_map]; exact (List.getElem?_eq_some_iff.mp he).1)] at h
      cases en <;> first | (cases ho; done) | (cases h; done)
    · rw [List.getElem?_set_ne (Ne.symm hk'), List.getElem?_map] at h
      cases c : ρ[k]? with
      | none => rw [c] at h; cases h
      | some x => rw [c] at h; cases x <;> cases h
  · by_cases hk' : k = i
    · subst hk'
      rw [List.getElem?_set_self (by rw [List.length_map]; exact (List.getElem?_eq_some_iff.mp he).1)] at h
      have := put_io ho (Option.some.inj h)
      exact s.io k _ _ (by rw [he, this])
    · rw [List.getElem?_set_ne (Ne.symm hk')] at h
      exact s0.io k n t h
theorem tv_lend (i : Nat) {x y : Str} {fa : Addr} {fd : FuncData} {qs : List Str} {k : Nat} {W : FnT} (F : FnOk X.prog X.w X.K X.mg X.base CX0 k fa fd qs (spT X.K [.io 1, .sh] W)) (hr : Room k X.A) (hg : Gl X x) (hm : X.mg x = some (.ref fa)) (hk : PySem.W.keepIn X.K (.ref fa) = true) (hb : Binds X.K fd qs [])
    (he : TPE X e wb) (hN : X.N[i]? = some y := by rfl) (hv : Vis X.env.scope y := by first | exact Or.inl rfl | exact Or.inr (Or.inl rfl) | exact Or.inr (Or.inr rfl)) (hd : (y == ("__debug__" : Str)) = false := by decide)
    (hcd : (y == ("__classdict__" : Str)) = false := by decide) (hdb : (x == ("__debug__" : Str)) = false := by decide) (hs0 : starEach [.Name y p2, e] X.env = (false, eval (.Name y p2) X.env) :: starEach [e] X.env := by rfl) (hs1 : starEach [e] X.env = (false, eval e X.env) :: starEach [] X.env := by rfl) (hpl : (backTo pos (starEach [e] X.env)).any (·.1) = false := by rfl) :
    TVE X (.Call (.Name x p) [.Name y p2, e] [] pos) (vLend i W wb) := by
  obtain ⟨te, pe, ke⟩ := he.ok
  refine ⟨⟨_, pe_call F hr hg hm hk hb .nil pass0 (pa_cons (pe_var hN hv hd hcd) (pa_cons pe pa_nil hs1) hs0) hdb hs0 hpl, fun f τ ρ σ H Q R h1 hw hq => ?_⟩⟩
  obtain ⟨S, rs, s⟩ := h1
  unfold vLend at hw
  split at hw
  · rename_i en hi
    split at hw
    · rename_i pool ho
      obtain ⟨hfl, hw⟩ := hw
      obtain ⟨r, g1, g2, g3, g4⟩ := s.get hi
      obtain ⟨⟨v, ev, own⟩, ndF, hF⟩ : (∃ v, r.o = some v ∧ Own X.K H S 1 pool v r.F) ∧ r.F.Nodup ∧ ∀ a ∈ r.F, ¬ S a ∧ (f.H0 a = none ∨ a ∈ f.W) := ⟨(s.good.slot i r g1).1.own (by rw [g2]; exact ho), (s.good.slot i r g1).2⟩
      have hv' : σ[i]? = some (some v) := by rw [g3, ev]
      refine ⟨v, hv', ke _ (rdE i ρ) σ H _ _ (s.rdBut g1) hw fun t u H1 h2 sm x => ?_⟩
      have there : ∀ a ∈ r.F, H a ≠ none := fun a ha z => by
        obtain ⟨o, y⟩ := s.good.own_there g1 ha
        rw [z] at y
        cases y
      have own1 : ∀ S', Own X.K H1 S' 1 pool v r.F := fun S' => (own.keep (fun _ z => z) (.same sm)).anyS hfl S'
      have hfr : ∀ a, fresh (fun a => a ∉ r.F) H a → a ∉ r.F := fun a z m => by
        rcases z with z | z
        · exact z m
        · exact there a m z
      refine ⟨[pool, t], fun a => a ∉ r.F ∧ H1 a ≠ none, [⟨.io 1 pool, some v, r.F⟩, ⟨.ow 0 t, some u, []⟩], _, .cons (p := .io 1) (.cons (p := .sh) .nil), ?_, h2, fun n z outs w H2 S2 rs2 F0 hR hP G2 => ?_⟩
      · have ix : ∀ (m : Nat) (q : Root), ([⟨.io 1 pool, some v, r.F⟩, ⟨.ow 0 t, some u, []⟩] : List Root)[m]? = some q → (m = 0 ∧ q = ⟨.io 1 pool, some v, r.F⟩) ∨ (m = 1 ∧ q = ⟨.ow 0 t, some u, []⟩) := fun m q e => by
          match m with
          | 0 => cases e; exact .inl ⟨rfl, rfl⟩
          | 1 => cases e; exact .inr ⟨rfl, rfl⟩
          | m + 2 => simp at e
        refine ⟨fun m q e => ?_, fun m l q q2 e1 e2 ne a ha hb => ?_, fun a h => h.2, fun a o h1 h2 => .inl h1, fun a h => .inl h, (s.same sm).good.tb⟩
        · rcases ix m q e with ⟨rfl, rfl⟩ | ⟨rfl, rfl⟩
          · exact ⟨⟨v, rfl, own1 _⟩, ndF, fun a ha => ⟨fun z => z.1 ha, .inr (List.mem_flatMap.mpr ⟨_, List.mem_cons_self, ha⟩)⟩⟩
          · exact ⟨⟨u, rfl, (x.trk).mono fun a z => ⟨hfr a z.1, z.2⟩⟩, List.nodup_nil, fun a ha => nomatch ha⟩
        · rcases ix m q e1 with ⟨rfl, rfl⟩ | ⟨rfl, rfl⟩
          · rcases ix l q2 e2 with ⟨rfl, rfl⟩ | ⟨rfl, rfl⟩
            · exact ne rfl
            · cases hb
          · cases ha
      · obtain ⟨zf, hR⟩ := hR
        split at hR
        · rename_i pool'
          obtain ⟨pf, hR⟩ := hR
          cases hP with
          | @io _ _ _ _ _ _ F' _ hP =>
            cases hP with
            | sh hP =>
              cases hP
              have q1 := G2.slot 0 _ rfl
              have q2 := G2.slot 1 _ rfl
              obtain ⟨⟨v1, e1, o1⟩, nd1, hF1⟩ := q1
              cases e1
              obtain ⟨⟨w1, e2, o2⟩, _, _⟩ := q2
              cases e2
              have foot0 : ∀ a, a ∈ foot [⟨.io 1 pool, some v, r.F⟩, ⟨.ow 0 t, some u, []⟩] → a ∈ r.F := fun a h => by
                obtain ⟨q, hq, ha⟩ := List.mem_flatMap.mp h
                simp only [List.mem_cons, List.not_mem_nil, or_false] at hq
                rcases hq with rfl | rfl
                · exact ha
                · cases ha
              obtain ⟨rs', s'⟩ := (s.same sm).lent (H' := H2) (F' := F') (pool' := pool') hi ho hv' g1 (fun a o h1 h2 => G2.fr a o h1 fun m => h2 (foot0 a m)) G2.tb (fun S' => o1.anyS pf S') nd1 (fun a ha => (hF1 a ha).2.imp id (foot0 a))
              exact hq 0 z _ w [] H2 hR ⟨S, rs', s'.pushS ((o2.flat0 zf).2 0 S)⟩
        · exact hR.elim
    · exact hw.elim
  · exact hw.elim
end
end TL
set_option Elab.async false
set_option linter.all false
set_option maxRecDepth 100000
namespace TL
open PySem PySem.Spec PyProof.Rows L2
theorem tKey_int (i : Int) : tKey (.int i) = some (.inl i) := rfl
theorem tKey_str (x : Str) : tKey (.str x) = some (.inr x) := rfl
theorem tKey_kT (k : Key) : tKey (kT k) = some k := by cases k <;> rfl
section
variable {X : Cx} {W : WX} {tg e a : Expr} {lo hi : Option Expr} {pos p2 : Pos} {v : List Ent → (Nat → T → List Ent → Prop) → Prop} {hT : T → List Ent → (List Ent → Prop) → Prop} {wa : List Ent → (T → Prop) → Prop} {wl wh : List Ent → (Option Int → Prop) → Prop}
/-- a, b = e (what e is worth is only read from now on) -/
def uAsgT (v : List Ent → (Nat → T → List Ent → Prop) → Prop) (hT : T → List Ent → (List Ent → Prop) → Prop) : TEnds → List Ent → Prop := fun De ρ => v ρ fun _ t ρ1 => hT t ρ1 De.nx
theorem ts_asgT {js : List Nat} (he : TVE X e v) (hg : TTg X tg js hT) (hs : swapsWithSole [tg] e pos.line X.env = pure false := by rfl) (hw : swappedStores [tg] e X.env = pure none := by rfl)
    (h1 : (assignEach [tg] X.env).map (·.2) = [assign tg X.env] := by rfl) : TS1 X W (.Assign [tg] e pos) (uAsgT v hT) := by
  obtain ⟨te, pe, ke⟩ := he.ok
  obtain ⟨tg', pg, kg⟩ := hg.ok
  refine ⟨⟨_, ps_asg pe pg hs hw h1, fun f τ ρ σ H De D h hl hw => ?_⟩⟩
  refine ke f τ ρ σ H _ _ h hw fun n t ρ1 v F H1 h2 s1 => ?_
  obtain ⟨S, rs, s2⟩ := s1.fit0
  exact kg f (τ ++ shRoots [t] [v]) ρ1 σ H1 S rs t v _ _ s2 s2.shr1 h2 fun ρ' σ' rs' h3 _ s3 => hl.nx ρ' σ' H1 h3 (Sta.pop ⟨S, rs', s3⟩)
/-- a slice of a tuple -/
def wSlT (wa : List Ent → (T → Prop) → Prop) (wl wh : List Ent → (Option Int → Prop) → Prop) : List Ent → (T → Prop) → Prop := fun ρ R => wa ρ fun t => wl ρ fun lo => wh ρ fun hi => match t with
  | .tup ts => R (.tup (cutT ts lo hi))
  | _ => False
theorem tp_slT (ha : TPE X a wa) (hl : TPO X lo wl) (hh : TPO X hi wh) : TPE X (.Subscript a (.Slice lo hi none p2) pos) (wSlT wa wl wh) := by
  obtain ⟨ta, pa, ka⟩ := ha.ok
  obtain ⟨tl, pl, kl⟩ := hl.ok
  obtain ⟨th, ph, kh⟩ := hh.ok
  refine ⟨⟨_, pe_slice sl_tupA pa pl ph, fun S ρ σ H Q R hr hw hq => ?_⟩⟩
  refine ka S ρ σ H _ _ hr hw fun t v H1 h1 s1 x1 => ?_
  refine kl (fresh S H) ρ σ H1 _ _ (hr.same s1) h1 fun l H2 h2 s2 => ?_
  refine kh (fresh (fresh S H) H1) ρ σ H2 _ _ ((hr.same s1).same s2) h2 fun h H3 h3 s3 => ?_
  cases t using T.cs <;> first | exact h3.elim | skip
  rename_i ts
  have x3 := x1.keep (fun _ z => z) (.same (s2.trans s3))
  have x3' := x3
  obtain ⟨p0, vs, rfl, q, r⟩ := shr_tupR x3
  have hl := r.length
  refine ⟨p0, vs, rfl, SqT.of q, fun hw => ?_, fun _ p hp => hq _ _ _ h3 ((s1.trans (s2.trans s3)).trans (same_new hp)) (.tup0 upd_same (Owns.keep (fun _ z => z) (shrs_cut r) (.same (same_new hp))))⟩
  have e : cutT ts l h = ts := by
    unfold cutT
    rw [hl, hw.1, hw.2, List.drop_zero, Nat.sub_zero, ← hl, List.take_length]
  have h3 : R (.tup (cutT ts l h)) := h3
  rw [e] at h3
  exact hq _ _ _ h3 (s1.trans (s2.trans s3)) x3'
end
/-! ### tuples joined -/
def gCatT : F2 := fun t u R => match t, u with
  | .tup xs, .tup ys => xs.length + ys.length ≤ 1000000 ∧ R (.tup (xs ++ ys))
  | _, _ => False
theorem opT_catT {K : PySem.W.Frag} : OpT K (rCatA K) gCatT := by
  intro S H x y t u Q R h1 h2 hg hq
  cases t using T.cs <;> first | exact hg.elim | skip
  cases u using T.cs <;> first | exact hg.elim | skip
  rename_i ts us
  obtain ⟨hz, hR⟩ := hg
  have h1' := h1
  have h2' := h2
  obtain ⟨a, vs, rfl, q, r⟩ := shr_tupR h1
  obtain ⟨b, ws, rfl, q2, r2⟩ := shr_tupR h2
  have l1 := r.length
  have l2 := r2.length
  refine ⟨a, b, vs, ws, rfl, rfl, SqT.of q, SqT.of q2, by rw [sizeLine_eq]; omega, fun e => ?_, fun _ e => ?_, fun _ _ p hp => hq _ _ _ hR (same_new hp) (.tup0 upd_same (Owns.keep (fun _ z => .inl z) (Shrs.append r r2) (.same (same_new hp))))⟩
  · have e1 : ts = [] := List.eq_nil_of_length_eq_zero (by rw [l1, e]; rfl)
    subst e1
    exact hq _ _ _ hR (Same.refl H) (h2'.mono fun _ => .inl)
  · have e1 : us = [] := List.eq_nil_of_length_eq_zero (by rw [l2, e]; rfl)
    subst e1
    rw [List.append_nil] at hR
    exact hq _ _ _ hR (Same.refl H) (h1'.mono fun _ => .inl)
end TL
set_option Elab.async false
set_option linter.all false
set_option maxRecDepth 100000
/-! TL37: instances: attributes read and stored, made, methods called -/
namespace TL
open PySem PySem.Spec PyProof.Rows L2
/-! ### attributes -/
theorem lk_zip {K : PySem.W.Frag} {H : Hp} {S : Addr → Prop} : ∀ {ns : List Str} {us : List T} {vs : List V} {f : Str} {z : T}, Shrs K H S us vs → lkT ns us f = some z → ∃ v, (ns.zip vs).lookup f = some v ∧ Shr K H S z v
  | [], _, _, _, _, _, h => by cases h
  | n :: ns, [], _, _, _, _, h => by cases h
  | n :: ns, u :: us, vs, f, z, r, h => by
    obtain ⟨v, ws, rfl, a, b⟩ := r.uncons
    rw [lkT] at h
    rw [List.zip_cons_cons, List.lookup_cons]
    by_cases e : n = f
    · rw [if_pos e] at h
      cases h
      rw [show (f == n) = true by rw [e]; exact beq_self_eq_true f]
      exact ⟨v, rfl, a⟩
    · rw [if_neg e] at h
      rw [show (f == n) = false from beq_eq_false_iff_ne.mpr (Ne.symm e)]
      exact lk_zip b h
theorem lk_no : ∀ {ns : List Str} {vs : List V} {f : Str}, f ∉ ns → (ns.zip vs).lookup f = none
  | [], _, _, _ => rfl
  | n :: ns, [], _, _ => rfl
  | n :: ns, v :: vs, f, h => by
    rw [List.zip_cons_cons, List.lookup_cons]
    rw [show (f == n) = false from beq_eq_false_iff_ne.mpr (fun e => h (by rw [e]; exact List.mem_cons_self))]
    exact lk_no fun m => h (List.mem_cons_of_mem _ m)
theorem shr_ins {K : PySem.W.Frag} {H : Hp} {S : Addr → Prop} {C : Addr} {ns : List Str} {us : List T} {v : V} (h : Shr K H S (.nd (.ins C ns) us) v) : ∃ a dx vs, v = .ref a ∧ ns.length = vs.length ∧ H a = some (.ins C dx (ns.zip vs)) ∧ Shrs K H S us vs := by
  obtain ⟨a, vs, rfl, ⟨o, ⟨hl, dx, rfl⟩, h1 | ⟨h1, _⟩⟩, r⟩ := shr_nd h
  · exact ⟨a, dx, vs, rfl, hl, h1.1, r⟩
  · cases h1
theorem putF_rel : ∀ {ns : List Str} {us : List T} {vs : List V} (q : Str) (z : T) (v : V), ns.length = us.length → ns.length = vs.length →
    (∃ i, i < us.length ∧ (putT ns us q z) = (ns, us.set i z) ∧ putF q v (ns.zip vs) = ns.zip (vs.set i v)) ∨ ((putT ns us q z) = (ns ++ [q], us ++ [z]) ∧ putF q v (ns.zip vs) = (ns ++ [q]).zip (vs ++ [v]))
  | [], us, vs, q, z, v, h1, h2 => by
    have e1 : us = [] := List.eq_nil_of_length_eq_zero (by simpa using h1.symm)
    have e2 : vs = [] := List.eq_nil_of_length_eq_zero (by simpa using h2.symm)
    subst e1; subst e2
    exact .inr ⟨rfl, rfl⟩
  | k :: ns, [], _, q, z, v, h1, _ => by simp at h1
  | k :: ns, _ :: _, [], q, z, v, _, h2 => by simp at h2
  | k :: ns, u :: us, w :: vs, q, z, v, h1, h2 => by
    rw [putT, List.zip_cons_cons, show putF q v ((k, w) :: ns.zip vs) = (if k = q then (k, v) :: ns.zip vs else (k, w) :: putF q v (ns.zip vs)) from rfl]
    by_cases e : k = q
    · rw [if_pos e, if_pos e]
      exact .inl ⟨0, by simp, rfl, rfl⟩
    · rw [if_neg e, if_neg e]
      rcases putF_rel q z v (us := us) (vs := vs) (by simpa using h1) (by simpa using h2) with ⟨i, hi, e1, e2⟩ | ⟨e1, e2⟩
      · exact .inl ⟨i + 1, by simpa using hi, by rw [e1]; rfl, by rw [e2]; rfl⟩
      · exact .inr ⟨by rw [e1]; rfl, by rw [e2]; rfl⟩
section
variable {X : Cx} {W : WX} {e o : Expr} {pos p tpos apos : Pos} {wa : List Ent → (T → Prop) → Prop} {v : List Ent → (Nat → T → List Ent → Prop) → Prop}
/-- e.f -/
def wFld (C : Addr) (f : Str) (wa : List Ent → (T → Prop) → Prop) : List Ent → (T → Prop) → Prop := fun ρ R => wa ρ fun t => match t with
  | .nd (.ins C' ns) us => C' = C ∧ match lkT ns us f with
    | some z => R z
    | none => False
  | _ => False
theorem tp_fld {C : Addr} {f : Str} (c : Cls X.K C) (n : NoAttr X.K C f) (ha : TPE X e wa) (hb : attributeBase e f X.env (eval e X.env) = eval e X.env := by rfl) : TPE X (.Attribute e f pos) (wFld C f wa) := by
  obtain ⟨ta, pa, ka⟩ := ha.ok
  refine ⟨⟨_, pe_fld pa hb, fun S ρ σ H Q R hr hw hq => ?_⟩⟩
  refine ka S ρ σ H _ _ hr hw fun t x H1 h1 s1 x1 => ?_
  split at h1
  · rename_i C' ns us
    obtain ⟨rfl, h1⟩ := h1
    split at h1
    · rename_i z hz
      obtain ⟨a, dx, vs, rfl, hl, ha, r⟩ := shr_ins x1
      obtain ⟨y, e1, sy⟩ := lk_zip r hz
      exact ⟨a, C', dx, _, y, rfl, ha, c, n, e1, hq _ _ _ h1 s1 sy⟩
    · exact h1.elim
  · exact h1.elim
/-- x.f = e, x the variable at j that owns the instance -/
def uFs (j : Nat) (C : Addr) (f : Str) (v : List Ent → (Nat → T → List Ent → Prop) → Prop) : TEnds → List Ent → Prop := fun De ρ => v ρ fun m t2 ρ1 => match ownD ρ1 j with
  | some (n, .ins C' ns, us) => C' = C ∧ ns.length = us.length ∧ fit n m t2 ∧ us.length < 900 ∧ De.nx (ndSet j ρ1 (.ins C (putT ns us f t2).1) (putT ns us f t2).2)
  | _ => False
theorem Sta.fput {K : PySem.W.Frag} {f : Fm} {H : Hp} {τ : List Root} {ρ : List Ent} {σ : St} {j m n : Nat} {C : Addr} {ns : List Str} {us : List T} {t2 : T} {v2 : V} {F2 : List Addr} {q : Str}
    (s : Sta K f (τ ++ [tmp m t2 v2 F2]) ρ σ H) (h : ownD ρ j = some (n, .ins C ns, us)) (hf : fit n m t2) (hn : ns.length = us.length) :
    ∃ a dx fs, σ[j]? = some (some (.ref a)) ∧ H a = some (.ins C dx fs) ∧ fs.length ≤ us.length ∧ Sta K f τ (ndSet j ρ (.ins C (putT ns us q t2).1) (putT ns us q t2).2) σ (upd H a (.ins C dx (putF q v2 fs))) := by
  obtain ⟨e, he, ho⟩ := ownD_at h
  obtain ⟨a, hv⟩ := s.ownV h
  obtain ⟨oa, vs, h1, h2, h3, _, h5, h6⟩ := s.mut he ho hv .nil (by simp) (by simpa using hf)
  have es : ∀ k' us', ndSet j ρ k' us' = (TL.killJ [j] ρ).set j (e.put (T.put (.nd k' us') [] (.nd (.ins C ns) us))) := fun k' us' => by
    unfold ndSet
    rw [he]
    rfl
  obtain ⟨l1, dx, rfl⟩ := h2
  refine ⟨a, dx, _, hv, h1, by rw [List.length_zip]; omega, ?_⟩
  rw [es]
  rcases putF_rel q t2 v2 hn l1 with ⟨i, hi, e1, e2⟩ | ⟨e1, e2⟩
  · rw [e1, e2]
    exact h5 i _ _ hi ⟨by rw [List.length_set]; exact l1, dx, rfl⟩
  · rw [e1, e2]
    exact h6 _ _ ⟨by simp [l1], dx, rfl⟩
theorem ts_fld (j : Nat) {x : Str} {C : Addr} {f : Str} (c : Cls X.K C) (n : NoAttr X.K C f) (he : TVE X e v) (hN : X.N[j]? = some x := by rfl) (hv : Vis X.env.scope x := by first | exact Or.inl rfl | exact Or.inr (Or.inl rfl) | exact Or.inr (Or.inr rfl)) (hd : (x == ("__debug__" : Str)) = false := by decide)
    (hcd : (x == ("__classdict__" : Str)) = false := by decide) (hs : swapsWith e (some (.Attribute (.Name x p) f tpos)) pos.line X.env = pure false := by rfl) : TS1 X W (.Assign [.Attribute (.Name x p) f tpos] e pos) (uFs j C f v) := by
  obtain ⟨te, pe, ke⟩ := he.ok
  refine ⟨⟨_, ps_fld (pe_var hN hv hd hcd) pe hs, fun f0 τ ρ σ H De D h1 hl hw => ?_⟩⟩
  refine ke f0 τ ρ σ H _ _ h1 hw fun m t2 ρ1 v2 F2 H1 h2 s1 => ?_
  split at h2
  · rename_i k C' ns us hk
    obtain ⟨rfl, hn, hf, hlen, h2⟩ := h2
    obtain ⟨a, dx, fs, g1, g2, g3, s2⟩ := s1.fput (q := f) hk hf hn
    exact ⟨.ref a, g1, a, C', dx, fs, rfl, g2, c, n, by omega, hl.nx _ σ _ h2 s2⟩
  · exact h2.elim
end
end TL
set_option Elab.async false
set_option linter.all false
set_option maxRecDepth 100000
/-! TL38: new instances, methods called -/
namespace TL
open PySem PySem.Spec PyProof.Rows L2
/-! ### a temporary as a slot more, and back -/
section
variable {K : PySem.W.Frag} {f : Fm} {S : Addr → Prop} {H : Hp} {τ rs : List Root} {ρ : List Ent} {σ : St}
theorem snoc_lt {α : Type} {l : List α} {x y : α} {i : Nat} (h : (l ++ [x])[i]? = some y) : (i < l.length ∧ l[i]? = some y) ∨ (i = l.length ∧ y = x) := by
  by_cases hi : i < l.length
  · rw [List.getElem?_append_left hi] at h
    exact .inl ⟨hi, h⟩
  · have hl := (List.getElem?_eq_some_iff.mp h).1
    rw [List.length_append, List.length_singleton] at hl
    have e : i = l.length := by omega
    subst e
    rw [getElem?_last] at h
    exact .inr ⟨rfl, (Option.some.inj h).symm⟩
theorem StaW.pushSl {n : Nat} {t : T} {v : V} {F : List Addr} (s : StaW K f (τ ++ [tmp n t v F]) ρ σ H S rs) : StaW K f τ (ρ ++ [.ow n t]) (σ ++ [some v]) H S (rs ++ [tmp n t v F]) where
  e := by rw [List.map_append, s.e]; rfl
  o := by rw [List.map_append, s.o]; rfl
  good := by
    refine s.good.pick (fun m => if m < rs.length then m else if m = rs.length then rs.length + τ.length else m - 1) (fun m r e => .inr ?_) (fun m l r q e1 e2 _ _ z => ?_)
    · skip
      by_cases h1 : m < rs.length
      · rw [if_pos h1]
        rw [List.append_assoc, List.getElem?_append_left h1] at e
        rw [List.getElem?_append_left h1]; exact e
      · rw [if_neg h1]
        by_cases h2 : m = rs.length
        · rw [if_pos h2]
          subst h2
          rw [List.append_assoc, List.getElem?_append_right (Nat.le_refl _), Nat.sub_self] at e
          rw [List.getElem?_append_right (by omega), show rs.length + τ.length - rs.length = τ.length by omega, getElem?_last]
          simpa using e
        · rw [if_neg h2]
          rw [List.append_assoc, List.getElem?_append_right (by omega), List.getElem?_append_right (by simp; omega)] at e
          rw [List.getElem?_append_right (by omega)]
          have hl := (List.getElem?_eq_some_iff.mp e).1
          simp only [List.length_singleton] at e hl
          rw [List.getElem?_append_left (by omega), show m - 1 - rs.length = m - rs.length - 1 by omega]
          exact e
    · have hm := (List.getElem?_eq_some_iff.mp e1).1
      have hl := (List.getElem?_eq_some_iff.mp e2).1
      simp only [List.length_append, List.length_singleton] at hm hl
      split at z <;> split at z <;> (try split at z) <;> (try split at z) <;> omega
  al := fun k j i u h => by
    rcases snoc_lt h with ⟨_, h⟩ | ⟨_, h⟩
    · obtain ⟨r, n', U, v0, v1, Fi, a1, a2, a3, a4, a5, a6, a7⟩ := (s.al k j i u h).ex
      exact ⟨⟨r, n', U, v0, v1, Fi, getElem?_app a1, a2, a3, getElem?_app a4, a5, a6, a7⟩⟩
    · cases h
  io := fun i n' u h => by
    rcases snoc_lt h with ⟨hi, h⟩ | ⟨_, h⟩
    · rw [List.getElem?_append_left (by rw [← s.lenσ, s.len]; exact hi)]
      exact s.io i n' u h
    · cases h
  tm := fun r h => s.tm r (List.mem_append_left _ h)
theorem StaW.popSl {n : Nat} {t : T} {ov : Option V} (s : StaW K f τ (ρ ++ [.ow n t]) (σ ++ [ov]) H S rs) (na : ∀ (k i : Nat) u, ρ[k]? ≠ some (.al ρ.length i u)) (hσ : σ.length = ρ.length) :
    ∃ v F rs', ov = some v ∧ StaW K f (τ ++ [tmp n t v F]) ρ σ H S rs' := by
  have hl := s.len
  rw [List.length_append, List.length_singleton] at hl
  obtain ⟨r, g1, g2, g3, g4⟩ := s.get (i := ρ.length) (e := .ow n t) getElem?_last
  obtain ⟨v, e1, own⟩ := (s.good.slot _ r g1).1.own (by rw [g2]; rfl)
  have g3' : (σ ++ [ov])[ρ.length]? = some r.o := g3
  rw [← hσ, getElem?_last] at g3'
  have eo : ov = r.o := Option.some.inj g3'
  have er : r = tmp n t v r.F := by
    cases r
    simp only at g2 e1
    rw [g2, e1]
  have ers : rs = rs.take ρ.length ++ [r] := by
    apply List.ext_getElem?
    intro i
    by_cases h1 : i < ρ.length
    · rw [List.getElem?_append_left (by rw [List.length_take]; omega), List.getElem?_take_of_lt h1]
    · by_cases h2 : i = ρ.length
      · rw [h2, g4, List.getElem?_append_right (by rw [List.length_take]; omega), List.length_take, Nat.min_eq_left (by omega), Nat.sub_self]; rfl
      · rw [List.getElem?_eq_none (by omega), List.getElem?_eq_none (by rw [List.length_append, List.length_take, List.length_singleton]; omega)]
  generalize hr0 : rs.take ρ.length = r0 at ers
  have l0 : r0.length = ρ.length := by rw [← hr0, List.length_take]; omega
  refine ⟨v, r.F, r0, eo.trans e1, ?_, ?_, ?_, fun k j i u h => ?_, fun i n' u h => ?_, tm_app s.tm ⟨_, _, rfl⟩⟩
  · have z := s.e
    rw [ers, List.map_append] at z
    exact (List.append_inj z (by rw [List.length_map, l0])).1
  · have z := s.o
    rw [ers, List.map_append] at z
    exact (List.append_inj z (by rw [List.length_map, l0, hσ])).1
  · rw [← er]
    refine s.good.pick (fun m => if m < r0.length then m else if m = r0.length + τ.length then r0.length else m + 1) (fun m q e => .inr ?_) (fun m l q q2 e1 e2 _ _ z => ?_)
    · skip
      rw [ers, List.append_assoc]
      by_cases h1 : m < r0.length
      · rw [if_pos h1]
        rw [List.getElem?_append_left h1] at e
        rw [List.getElem?_append_left h1]; exact e
      · rw [if_neg h1]
        rw [List.getElem?_append_right (by omega)] at e
        by_cases h2 : m = r0.length + τ.length
        · rw [if_pos h2]
          rw [h2, show r0.length + τ.length - r0.length = τ.length by omega, getElem?_last] at e
          rw [List.getElem?_append_right (Nat.le_refl _), Nat.sub_self]
          simpa using e
        · rw [if_neg h2]
          have hl2 := (List.getElem?_eq_some_iff.mp e).1
          rw [List.length_append, List.length_singleton] at hl2
          rw [List.getElem?_append_left (by omega)] at e
          rw [List.getElem?_append_right (by omega), List.getElem?_append_right (by simp; omega)]
          rw [← e, List.length_singleton]
          congr 1
          omega
    · have hm := (List.getElem?_eq_some_iff.mp e1).1
      have hl := (List.getElem?_eq_some_iff.mp e2).1
      simp only [List.length_append, List.length_singleton] at hm hl
      split at z <;> split at z <;> (try split at z) <;> (try split at z) <;> omega
  · obtain ⟨q, n', U, v0, v1, Fi, a1, a2, a3, a4, a5, a6, a7⟩ := (s.al k j i u (getElem?_app h)).ex
    have kl := (List.getElem?_eq_some_iff.mp h).1
    have hj : j < r0.length := by
      have := (List.getElem?_eq_some_iff.mp a1).1
      by_cases e : j = ρ.length
      · subst e; exact absurd h (na k i u)
      · omega
    refine ⟨⟨q, n', U, v0, v1, Fi, ?_, a2, a3, ?_, a5, a6, a7⟩⟩
    · rw [ers, List.getElem?_append_left hj] at a1; exact a1
    · rw [List.getElem?_append_left (by omega)] at a4; exact a4
  · have kl := (List.getElem?_eq_some_iff.mp h).1
    have z := s.io i n' u (getElem?_app h)
    rw [List.getElem?_append_left (by omega)] at z
    exact z
end
theorem inT_sh {ρ : List Ent} : ∀ {ts : List T}, inT ρ (allSh ts.length) (List.replicate ts.length (.tv 0)) ts = some ts
  | [] => rfl
  | t :: ts => by
    show (if 0 = 0 then (inT ρ (allSh ts.length) (List.replicate ts.length (.tv 0)) ts).map (t :: ·) else none) = _
    rw [if_pos rfl, inT_sh]; rfl
theorem cms_sh {σ : St} : ∀ {ts : List T} {vs : List V}, ts.length = vs.length → Cms σ (List.replicate ts.length (.tv 0)) ts vs (shRoots ts vs)
  | [], [], _ => .nil
  | [], _ :: _, h => by simp at h
  | _ :: _, [], h => by simp at h
  | t :: ts, v :: vs, h => .tv (cms_sh (by simpa using h))
theorem sls_sh : ∀ {n : Nat}, slsOf (List.replicate n (.tv 0)) = []
  | 0 => rfl
  | n + 1 => sls_sh (n := n)
theorem ups_sh {os : List T} : ∀ {n : Nat}, ups (allSh n) (List.replicate n (.tv 0)) os = []
  | 0 => by unfold allSh; simp [ups]
  | n + 1 => by
    show ups (allSh n) (List.replicate n (.tv 0)) os = []
    exact ups_sh
section
variable {X : Cx} {e o : Expr} {es : List Expr} {pos p apos : Pos} {ks : List Nat} {vA : List Ent → (List T → List Ent → Prop) → Prop} {wo : List Ent → (T → Prop) → Prop} {wA : List Ent → (List T → Prop) → Prop}
/-- C(e, ..): the arguments are only read; the new instance is owned n + 1 deep -/
def vMake (C : Addr) (n : Nat) (m : Nat) (W : FnT) (vA : List Ent → (List T → List Ent → Prop) → Prop) : List Ent → (Nat → T → List Ent → Prop) → Prop := fun ρ R => vA ρ fun ts ρ' => ts.length = m ∧ W (.nd (.ins C []) [] :: ts) fun _ t outs => t = .non ∧ match outs with
  | [s] => R (n + 1) s (killJ [] ρ')
  | _ => False
theorem killJ_no {L : Nat} : ∀ {ρ : List Ent}, (∀ (k i : Nat) u, ρ[k]? ≠ some (.al L i u)) → killJ [L] ρ = killJ [] ρ := fun {ρ} h => by
  unfold killJ
  refine List.map_congr_left fun e he => ?_
  cases e with
  | al j i u =>
    obtain ⟨k, hk⟩ := List.mem_iff_getElem?.mp he
    have ne : j ≠ L := fun z => h k i u (by rw [hk, z])
    show (if j ∈ [L] then Ent.no else .al j i u) = (if j ∈ [] then Ent.no else .al j i u)
    rw [if_neg (by simpa using ne), if_neg (by simp)]
  | _ => rfl
theorem tv_make {x : Str} {C fI : Addr} {fd : FuncData} {qs : List Str} {k n m : Nat} {W : FnT} (M : Mk X.K C fI) (F : FnOk X.prog X.w X.K X.mg X.base CX0 k fI fd qs (spT X.K (.io (n + 1) :: allSh m) W)) (hr : Room (k + 1) X.A) (hg : Gl X x) (hm : X.mg x = some (.ref C)) (hb : Binds X.K fd qs [])
    (ha : TVA X ks (e :: es) vA) (h0 : ∀ k ∈ ks, k = 0 := by simp) (hdb : (x == ("__debug__" : Str)) = false := by decide) (he : starEach (e :: es) X.env = (false, eval e X.env) :: starEach es X.env := by rfl) (hpl : (backTo pos (starEach es X.env)).any (·.1) = false := by rfl) :
    TVE X (.Call (.Name x p) (e :: es) [] pos) (vMake C n m W vA) := by
  obtain ⟨ta, pa, ka⟩ := ha.ok
  refine ⟨⟨_, pe_make M F hr hg hm hb .nil pass0 pa hdb he hpl, fun f τ ρ σ H Q R h1 hw hq => ?_⟩⟩
  refine ka f τ ρ σ H _ _ h1 hw fun ts ρ' vs ms H1 h2 hm1 s1 xx dx nx ndx ne => ?_
  have em := s1.shm hm1 h0
  subst em
  have hl : ts.length = vs.length := by rw [hm1.lens.1, hm1.lens.2]
  obtain ⟨hml, hW⟩ := h2
  subst hml
  obtain ⟨S, rs, s⟩ := s1
  have nx2 : (upd H1 dx (.own xx)) xx = none := by rw [upd_ne (Ne.symm ne)]; exact nx
  have s2 := (s.same (Same.new ndx nt_own)).pushNew (n := n) (kd := .ins C []) (o := .ins C dx []) (vs := []) (ts := []) nx2 ⟨rfl, dx, rfl⟩ .nil
  have s3 := s2.pushSl
  have lρ : σ.length = ρ'.length := by rw [← s.lenσ, s.len]
  have noal : ∀ (k i : Nat) u, ρ'[k]? ≠ some (.al ρ'.length i u) := fun k i u z => by
    obtain ⟨r, n', U, v0, v1, Fi, a1, _⟩ := (s.al k _ i u z).ex
    have := (List.getElem?_eq_some_iff.mp a1).1
    rw [s.len] at this
    omega
  rw [List.append_nil]
  have hin : inT (ρ' ++ [.ow (n + 1) (.nd (.ins C []) [])]) (.io (n + 1) :: allSh ts.length) (.sl ρ'.length :: List.replicate ts.length (.tv 0)) (.non :: ts) = some (.nd (.ins C []) [] :: ts) := by
    show (match (ρ' ++ [Ent.ow (n + 1) (.nd (.ins C []) [])])[ρ'.length]?.bind Ent.own with
      | some (m, t) => if m = n + 1 then (inT _ (allSh ts.length) (List.replicate ts.length (.tv 0)) ts).map (t :: ·) else none
      | none => none) = _
    rw [getElem?_last]
    show (if n + 1 = n + 1 then (inT _ (allSh ts.length) (List.replicate ts.length (.tv 0)) ts).map (T.nd (.ins C []) [] :: ·) else none) = _
    rw [if_pos rfl, inT_sh]; rfl
  refine call_core s3 (Cms.sl (by rw [← lρ]; exact getElem?_last) (cms_sh hl)) hin (by show (ρ'.length :: slsOf _).Nodup; rw [sls_sh]; simp) hW fun nr tr outs v F' H2 hR s4 => ?_
  obtain ⟨rfl, hR⟩ := hR
  have evn : v = .non := by
    obtain ⟨S4, rs4, s4⟩ := s4
    obtain ⟨⟨v', e1, own⟩, _⟩ := s4.good.slot (rs4 ++ τ).length _ (by rw [← List.append_assoc]; exact getElem?_last)
    cases e1
    exact shr_non (own.shr (S' := fun _ => True) (fun _ _ => trivial) fun _ _ => trivial)
  refine ⟨evn, ?_⟩
  split at hR
  · rename_i out
    obtain ⟨S4, rs4, s4⟩ := s4.pop
    have eρ : putL (ups (.io (n + 1) :: allSh ts.length) (.sl ρ'.length :: List.replicate ts.length (.tv 0)) [out]) 0 (killJ (slsOf (.sl ρ'.length :: List.replicate ts.length (.tv 0))) (ρ' ++ [.ow (n + 1) (.nd (.ins C []) [])])) = killJ [] ρ' ++ [.ow (n + 1) out] := by
      have e1 : ups (.io (n + 1) :: allSh ts.length) (.sl ρ'.length :: List.replicate ts.length (.tv 0)) [out] = [(ρ'.length, out)] := by
        show (ρ'.length, out) :: ups (allSh ts.length) (List.replicate ts.length (.tv 0)) [] = _
        rw [ups_sh]
      have e2 : slsOf (.sl ρ'.length :: List.replicate ts.length (.tv 0)) = [ρ'.length] := by
        show ρ'.length :: slsOf _ = _
        rw [sls_sh]
      rw [e1, e2]
      have e3 : killJ [ρ'.length] (ρ' ++ [Ent.ow (n + 1) (.nd (.ins C []) [])]) = killJ [] ρ' ++ [.ow (n + 1) (.nd (.ins C []) [])] := by
        rw [← killJ_no noal]
        unfold killJ
        rw [List.map_append]; rfl
      rw [e3]
      have lk : (killJ [] ρ').length = ρ'.length := by unfold killJ; rw [List.length_map]
      apply List.ext_getElem?
      intro i
      rw [putL_get, Nat.zero_add]
      by_cases hi : i < ρ'.length
      · have ne : ¬ (i == ρ'.length) = true := by simp; omega
        rw [List.getElem?_append_left (by omega), List.getElem?_append_left (by omega)]
        rw [show List.lookup i [(ρ'.length, out)] = none by rw [List.lookup_cons, show (i == ρ'.length) = false by simpa using ne]; rfl]
        cases (killJ [] ρ')[i]? <;> rfl
      · by_cases hi2 : i = ρ'.length
        · subst hi2
          rw [← lk, getElem?_last, getElem?_last]
          show some (match List.lookup (killJ [] ρ').length [((killJ [] ρ').length, out)] with | some t => Ent.put t (Ent.ow (n + 1) (.nd (.ins C []) [])) | none => _) = _
          rw [List.lookup_cons, beq_self_eq_true]; rfl
        · rw [List.getElem?_eq_none (by rw [List.length_append, List.length_singleton]; omega), List.getElem?_eq_none (by rw [List.length_append, List.length_singleton]; omega)]; rfl
    rw [eρ] at s4
    have lk : (killJ [] ρ').length = ρ'.length := by unfold killJ; rw [List.length_map]
    obtain ⟨v5, F5, rs5, e5, s5⟩ := s4.popSl (fun k i u z => by
      rw [lk] at z
      unfold killJ at z
      rw [List.getElem?_map] at z
      cases c : ρ'[k]? with
      | none => rw [c] at z; cases z
      | some e0 =>
        rw [c] at z
        have z := Option.some.inj z
        cases e0 with
        | al j i' u' =>
          have z : (if j ∈ [] then Ent.no else .al j i' u') = .al ρ'.length i u := z
          rw [if_neg (by simp)] at z
          cases z
          exact noal k _ _ c
        | _ => cases z) (by rw [lk]; exact lρ)
    cases e5
    obtain ⟨S6, rs6, s6⟩ : Sta X.K f ((τ ++ []) ++ [tmp (n + 1) out (.ref xx) F5]) (killJ [] ρ') σ H2 := ⟨S4, rs5, by rw [List.append_nil]; exact s5⟩
    rw [List.append_nil] at s6
    exact hq _ _ _ _ _ _ hR ⟨S6, rs6, s6⟩
  · exact hR.elim
/-- o.m(e, ..), all only read -/
def wMeth (C : Addr) (nm : Str) (n : Nat) (W : FnT) (wo : List Ent → (T → Prop) → Prop) (wA : List Ent → (List T → Prop) → Prop) : List Ent → (T → Prop) → Prop := fun ρ R => wo ρ fun t => match t with
  | .nd (.ins C' ns) us => (C' = C ∧ nm ∉ ns) ∧ wA ρ fun ts => ts.length + 1 = n ∧ W (.nd (.ins C' ns) us :: ts) fun _ z _ => R z
  | _ => False
theorem tp_meth {nm : Str} {C fa : Addr} {fd : FuncData} {qs : List Str} {k n : Nat} {W : FnT} {pl : Sem Bool} (c : Cls X.K C) (hm : Meth X.K C nm fa) (F : FnOk X.prog X.w X.K X.mg X.base CX0 k fa fd qs (spT X.K (allSh n) W)) (hr : Room k X.A) (hb : Binds X.K fd qs [])
    (ho : TPE X o wo) (ha : TPA X (e :: es) wA) (hst : starEach (e :: es) X.env = (false, eval e X.env) :: starEach es X.env := by rfl) (hpl : (backTo pos (starEach es X.env)).any (·.1) = false := by rfl)
    (ht : eval (.Call (.Attribute o nm apos) (e :: es) [] pos) X.env = (do
      let ov ← eval o X.env
      standAt apos.atName
      let (f, first) ← holding [ov] (getMethod ov nm pl)
      callWith pos f first (backTo pos (starEach (e :: es) X.env)) (backToKw pos (keywordEach [] X.env))) := by rfl) :
    TPE X (.Call (.Attribute o nm apos) (e :: es) [] pos) (wMeth C nm n W wo wA) := by
  obtain ⟨to, po, ko⟩ := ho.ok
  obtain ⟨ta, pa, ka⟩ := ha.ok
  refine ⟨⟨_, pe_meth po c hm F hr hb .nil pass0 pa hst hpl ht, fun S ρ σ H Q R hr hw hq => ?_⟩⟩
  refine ko S ρ σ H _ _ hr hw fun t x H1 h1 s1 x1 => ?_
  split at h1
  · rename_i C' ns us
    obtain ⟨⟨rfl, hn⟩, h1⟩ := h1
    obtain ⟨a, dx, vs, rfl, hl, ha1, r⟩ := shr_ins x1
    refine ⟨a, dx, _, rfl, ha1, lk_no hn, ka _ ρ σ H1 _ _ (hr.same s1) h1 fun ts vs2 H2 h2 s2 x2 => ?_⟩
    rw [List.append_nil]
    have x1' : Shr X.K H2 (fresh (fresh S H) H1) (.nd (.ins C' ns) us) (.ref a) := shr_up x1 s2
    refine spT_pure (Shrs.cons x1' x2) (s2.tb (s1.tb hr.tb)) (by show n = ts.length + 1; exact h2.1.symm) h2.2 fun m z v H3 S' F0 h3 s3 own hS hF nd hd => ?_
    refine hq z v H3 h3 (s1.trans (s2.trans s3)) (own.shr (fun a z => fresh_trans s1 (fresh_trans s2 (hS a z).1)) fun a z => ?_)
    exact .inr (s1.free (s2.free (hF a z)))
  · exact h1.elim
/-- .. what it hands back is new, as deep as it is owned -/
def vMethN (C : Addr) (nm : Str) (n : Nat) (W : FnT) (wo : List Ent → (T → Prop) → Prop) (wA : List Ent → (List T → Prop) → Prop) : List Ent → (Nat → T → List Ent → Prop) → Prop := fun ρ R => wo ρ fun t => match t with
  | .nd (.ins C' ns) us => (C' = C ∧ nm ∉ ns) ∧ wA ρ fun ts => ts.length + 1 = n ∧ W (.nd (.ins C' ns) us :: ts) fun m z _ => z.flatAt m = true ∧ R m z ρ
  | _ => False
theorem tv_methN {nm : Str} {C fa : Addr} {fd : FuncData} {qs : List Str} {k n : Nat} {W : FnT} {pl : Sem Bool} (c : Cls X.K C) (hm : Meth X.K C nm fa) (F : FnOk X.prog X.w X.K X.mg X.base CX0 k fa fd qs (spT X.K (allSh n) W)) (hr : Room k X.A) (hb : Binds X.K fd qs [])
    (ho : TPE X o wo) (ha : TPA X (e :: es) wA) (hst : starEach (e :: es) X.env = (false, eval e X.env) :: starEach es X.env := by rfl) (hpl : (backTo pos (starEach es X.env)).any (·.1) = false := by rfl)
    (ht : eval (.Call (.Attribute o nm apos) (e :: es) [] pos) X.env = (do
      let ov ← eval o X.env
      standAt apos.atName
      let (f, first) ← holding [ov] (getMethod ov nm pl)
      callWith pos f first (backTo pos (starEach (e :: es) X.env)) (backToKw pos (keywordEach [] X.env))) := by rfl) :
    TVE X (.Call (.Attribute o nm apos) (e :: es) [] pos) (vMethN C nm n W wo wA) := by
  obtain ⟨to, po, ko⟩ := ho.ok
  obtain ⟨ta, pa, ka⟩ := ha.ok
  refine ⟨⟨_, pe_meth po c hm F hr hb .nil pass0 pa hst hpl ht, fun f τ ρ σ H Q R hs hw hq => ?_⟩⟩
  refine ko _ ρ σ H _ _ hs.rdAll hw fun t x H1 h1 s1 x1 => ?_
  split at h1
  · rename_i C' ns us
    obtain ⟨⟨rfl, hn⟩, h1⟩ := h1
    obtain ⟨a, dx, vs, rfl, hl, ha1, r⟩ := shr_ins x1
    refine ⟨a, dx, _, rfl, ha1, lk_no hn, ka _ ρ σ H1 _ _ (hs.rdAll.same s1) h1 fun ts vs2 H2 h2 s2 x2 => ?_⟩
    rw [List.append_nil]
    have x1' : Shr X.K H2 (fresh (fresh (fun _ => True) H) H1) (.nd (.ins C' ns) us) (.ref a) := shr_up x1 s2
    obtain ⟨S, rs, s⟩ := hs.same (s1.trans s2)
    refine spT_pure (Shrs.cons x1' x2) s.good.tb (by show n = ts.length + 1; exact h2.1.symm) h2.2 fun m z v H3 S' F0 h3 s3 own hS hF nd hd => ?_
    exact hq m z ρ v F0 H3 h3.2 ⟨S, rs, s.pushF s3 (own.anyS h3.1 S) nd hF⟩
  · exact h1.elim
end
end TL
set_option Elab.async false
set_option linter.all false
set_option maxRecDepth 100000
/-! TL39: list comprehensions over dicts, dict comprehensions -/
namespace TL
open PySem PySem.Spec PyProof.Rows L2
section
variable {X : Cx} {W : WX} {elt kx tg e iter : Expr} {ifs : List Expr} {scope : Scope} {own : List (Str × Nat)} {pos apos cpos tpos : Pos} {elts : List Expr} {kk : Nat} {js vs : List Nat} {k : Nat} {v : List Ent → (Nat → T → List Ent → Prop) → Prop} {wi : List Ent → (List T → List Ent → Prop) → Prop} {hT : T → List Ent → (List Ent → Prop) → Prop} {vt : List Ent → (Bool → List Ent → Prop) → Prop} {ve vk : List Ent → (Nat → T → List Ent → Prop) → Prop}
/-- the walk over the locked dict -/
theorem lcd_core {f f' : Fm} {τ : List Root} {ρ1 : List Ent} {σ : St} {H1 : Hp} {d : Addr} {od : Obj} {ob : HO} {t : T} {ts : List T} {J : It} {Q : VK} {R : Nat → T → List Ent → Prop} {u : KDep R} (hj : ∀ j ∈ js, j ∈ vs)
    (lk : Lkd X f f' d od ob) (ith : ItD X.K J d od ob t ts) (s1 : Sta X.K f' (τ ++ shRoots [t] [.ref d]) ρ1 σ H1) (h2 : lcOk k hT vt ve vs R u ts ρ1) (hq : ∀ n t ρ' v F H', R n t ρ' → Sta X.K f (τ ++ [tmp n t v F]) ρ' σ H' → Q v H') :
    ∀ D, H1 D = none → ∃ W : Nat → Nat → Hp → Prop, (∃ m, W 0 m (upd H1 D (.lst []))) ∧ ∀ i m H, W i m H →
      (J.stop i H ∧ Unl X (Q (.ref D)) H) ∨ (J.go i H ∧ ∃ Nx : Hp → Prop, (∀ H', Nx H' → ∃ m', m' < m ∧ W (i + 1) m' H') ∧ ∀ x H', J.yld i H x H' → canG X.K js hT x (wipe σ vs) H' fun σ2 H2 => wipe σ2 vs = wipe σ vs ∧ canT X.K vt σ2 H2 fun b H3 =>
        if b = true then canE X.K ve σ2 H3 fun y H4 => ∃ acc, H4 D = some (.lst acc) ∧ acc.length < sizeLine ∧ Nx (upd H4 D (.lst (acc ++ [y]))) else Nx H3) := by
  intro D hD
  obtain ⟨I, i0, hI, hend⟩ := h2
  have wk : Walk J ts.length (fun H => H d = some (.frz od ob)) (fun i H x H' => J.yld i H x H' ∧ H d = some (.frz od ob)) :=
    ⟨fun i H hi h => ith.goes i H h hi, fun H h => ith.stops H h, fun i H x H' _ h y => ⟨y, h⟩⟩
  let Pv : Nat → Hp → Prop := fun i H => ∃ acc ρ0 FD, I i acc (notIn vs ρ0) ∧ Sta X.K f' (tmp (k + 1) (.lst acc) (.ref D) FD :: (τ ++ shRoots [t] [.ref d])) (notIn vs ρ0) (wipe σ vs) H
  have pop1 : ∀ {r : Root} {H ρ σ}, Sta X.K f' (r :: (τ ++ shRoots [t] [.ref d])) ρ σ H → Sta X.K f' (τ ++ shRoots [t] [.ref d]) ρ σ H := fun s => s.rot.pop
  have swap : ∀ {r : Root} {H ρ σ}, Sta X.K f' (r :: (τ ++ shRoots [t] [.ref d])) ρ σ H → Sta X.K f' (r :: τ) ρ σ H := fun {r H ρ σ} s => by
    have s : Sta X.K f' ((r :: τ) ++ shRoots [t] [.ref d]) ρ σ H := s
    exact s.pop
  refine lc_it wk Pv ?_ (fun i H _ h => ?_) (fun i x H H' hi h y => ?_) fun H h => ?_
  · obtain ⟨S, rs, s⟩ := s1.notIn vs (offs_wipe (σ := σ))
    exact ⟨[], ρ1, _, i0, Sta.torF ⟨S, rs, s.pushNew (kd := .lst) hD rfl (n := k) .nil⟩⟩
  · obtain ⟨acc, ρ0, FD, im, s⟩ := h
    exact lk.at' _ _ _ _ (pop1 s)
  · obtain ⟨acc, ρ0, FD, im, s⟩ := h
    obtain ⟨S, rs, s⟩ := s
    have s0 : StaW X.K f' ((tmp (k + 1) (.lst acc) (.ref D) FD :: τ) ++ shRoots [t] [.ref d] ++ []) (notIn vs ρ0) (wipe σ vs) H S rs := by rw [List.append_nil]; exact s
    obtain ⟨v', e', shr⟩ := shrs1 (s0.shr rfl)
    cases e'
    obtain ⟨t', e1, sm, x1⟩ := ith.yields i H S x H' hi y.2 shr y.1
    refine ⟨f', _, _, _, rs, t', _, s.grow sm, shr_grown x1, hI i t' acc _ e1 im, fun ρ2 σ2 rs2 h2 o2 s2 => ?_⟩
    have o3 : Offs vs σ σ2 := ⟨o2.1.trans (wipe_length _ _), fun m hm => (o2.2 m fun z => hm (hj m z)).trans (wipe_out hm)⟩
    have o4 : Offs vs σ2 (wipe σ vs) := ⟨o2.1.symm, fun m hm => (o2.2 m fun z => hm (hj m z)).symm⟩
    refine ⟨wipe_eq o3, f', _, ρ2, _, ⟨_, _, s2⟩, h2, fun b ρ3 H3 h3 s3 => ?_⟩
    cases b with
    | false =>
      rw [if_neg Bool.false_ne_true] at h3 ⊢
      exact ⟨acc, ρ3, FD, h3, s3.notIn vs o4⟩
    | true =>
      rw [if_pos rfl] at h3 ⊢
      refine ⟨f', _, ρ3, _, s3, h3, fun n u ρ4 y4 F4 H4 h4 s4 => ?_⟩
      obtain ⟨h5, h6, h7⟩ := h4
      have s5 := s4.notIn vs o4
      obtain ⟨xs, F', q1, q2, q3⟩ := Sta.snocT s5 (notIn_nr vs ρ4) h5
      exact ⟨xs, q1, by rw [q2]; exact Nat.lt_of_lt_of_le h6 million, acc ++ [u], ρ4, F', h7, q3⟩
  · obtain ⟨acc, ρ0, FD, im, s⟩ := h
    have s2 := (swap s).notIn vs (offs_wipe (σ := σ)).symm
    rw [notIn_idem] at s2
    exact lk.back _ _ _ _ _ s2.rot fun H2 s3 => hq (k + 1) (.lst acc) _ _ FD H2 (hend acc _ im) s3
/-- [.. for k in d ..] -/
def vLcD (k : Nat) (v : List Ent → (Nat → T → List Ent → Prop) → Prop) (hT : T → List Ent → (List Ent → Prop) → Prop) (vt : List Ent → (Bool → List Ent → Prop) → Prop) (ve : List Ent → (Nat → T → List Ent → Prop) → Prop) (vs : List Nat) : List Ent → (Nat → T → List Ent → Prop) → Prop := fun ρ R => v ρ fun _ t ρ1 => match t with
  | .nd (.dK ks) _ => lcOk k hT vt ve vs R () (ks.map kT) ρ1
  | .nd (.dT ks) _ => lcOk k hT vt ve vs R () (ks.map ktT) ρ1
  | _ => False
theorem lcd_read {te : TE} (ke : ∀ (f : Fm) (τ : List Root) (ρ : List Ent) (σ : St) (H : Hp) (Q : VK) (R : Nat → T → List Ent → Prop), Sta X.K f τ ρ σ H → v ρ R → (∀ n t ρ' v F H', R n t ρ' → Sta X.K f (τ ++ [tmp n t v F]) ρ' σ H' → Q v H') → te σ H Q)
    (hj : ∀ j ∈ js, j ∈ vs) {f : Fm} {τ : List Root} {ρ : List Ent} {σ : St} {H : Hp} {Q : VK} {R : Nat → T → List Ent → Prop} (hs : Sta X.K f τ ρ σ H) (hw : vLcD k v hT vt ve vs ρ R) (hq : ∀ n t ρ' v F H', R n t ρ' → Sta X.K f (τ ++ [tmp n t v F]) ρ' σ H' → Q v H') :
    tUnlE X (tLc (iKeys (teL X te)) (canG X.K js hT) (canT X.K vt) (canE X.K ve) vs) σ H Q := by
  refine ke f τ ρ σ H _ _ hs hw fun n t ρ1 v F H1 h2 s1 => ?_
  obtain ⟨S, rs, s2⟩ := s1.fit0
  cases t using T.cs <;> first | exact h2.elim | skip
  · rename_i ks us
    obtain ⟨d, o, ws, rfl, ⟨od, L⟩ | ⟨hd, mu, L⟩⟩ := lkd_any s2 rfl
    · obtain ⟨⟨hk, hn, rfl⟩, hl2, ⟨f', lk, s3⟩, hd⟩ := L
      exact .inl ⟨d, od, rfl, .inl ⟨_, hd, lcd_core hj lk (itd_keys hk) s3 h2 hq⟩⟩
    · refine .inr ⟨d, o, rfl, hd, mu, fun od nf => ?_⟩
      obtain ⟨⟨hk, hn, rfl⟩, hl2, ⟨f', lk, s3⟩, hd⟩ := L od nf
      exact ⟨d, od, rfl, .inl ⟨_, hd, lcd_core hj lk (itd_keys hk) s3 h2 hq⟩⟩
  · rename_i ks us
    obtain ⟨d, o, ws, rfl, ⟨od, L⟩ | ⟨hd, mu, L⟩⟩ := lkd_any s2 rfl
    · obtain ⟨⟨hk, hn, rfl⟩, hl2, ⟨f', lk, s3⟩, hd⟩ := L
      exact .inl ⟨d, od, rfl, .inr ⟨_, hd, lcd_core hj lk (itd_keysT hk) s3 h2 hq⟩⟩
    · refine .inr ⟨d, o, rfl, hd, mu, fun od nf => ?_⟩
      obtain ⟨⟨hk, hn, rfl⟩, hl2, ⟨f', lk, s3⟩, hd⟩ := L od nf
      exact ⟨d, od, rfl, .inr ⟨_, hd, lcd_core hj lk (itd_keysT hk) s3 h2 hq⟩⟩
theorem tv_lcD (k : Nat) (js : List Nat) (hc : X.calm = true) (hN : X.N.Nodup) (hi : TVE X e v) (ok : BlkOk X.N X.env.scope scope own)
    (hg : ∀ (s : Shared) (H : Hp) (C : Addr) (cl : List (Str × Addr)) (fp : List Addr), TTg (X.blk s H scope (compEnvC scope cl C X.env) fp) tg js hT) (ht : ∀ (s : Shared) (H : Hp) (C : Addr) (cl : List (Str × Addr)) (fp : List Addr), TVTs (X.blk s H scope (compEnvC scope cl C X.env) fp) ifs vt)
    (he : ∀ (s : Shared) (H : Hp) (C : Addr) (cl : List (Str × Addr)) (fp : List Addr), TVE (X.blk s H scope (compEnvC scope cl C X.env) fp) elt ve) (hj : ∀ j ∈ js, j ∈ own.map (·.2) := by decide) (hs : ∀ x, foldedSetIterable e X.env x = pure x := by intro _; rfl) :
    TVE X (.ListComp elt [⟨tg, e, ifs, 0⟩] scope pos) (vLcD k v hT vt ve (own.map (·.2))) := by
  obtain ⟨te, pe, ke⟩ := hi.ok
  exact ⟨⟨_, pe_unl (pe_lc (g := canG X.K js hT) (tt := canT X.K vt) (te := canE X.K ve) hc hN (pi_keys (pe_L pe)) ok (fun s H C cl fp => (hg s H C cl fp).can) (fun s H C cl fp => (ht s H C cl fp).can) (fun s H C cl fp => (he s H C cl fp).can) hs), fun f τ ρ σ H Q R h1 hw hq => lcd_read ke hj h1 hw hq⟩⟩
/-! ### dict comprehensions -/
theorem dc_it {J : It} {n : Nat} {G : Hp → Prop} {Y : Nat → Hp → V → Hp → Prop} (w : Walk J n G Y) {g : TG} {tt : TT} {tk tv : TE} {vs : List Nat} {σ : St} {H1 : Hp} {D : Addr} {Qd : Hp → Prop} (Pv : Nat → Hp → Prop) (h0 : Pv 0 (upd H1 D (.dK []))) (hG : ∀ i H, i ≤ n → Pv i H → G H)
    (hs : ∀ i x H H', i < n → Pv i H → Y i H x H' → g x (wipe σ vs) H' fun σ2 H2 => wipe σ2 vs = wipe σ vs ∧ tt σ2 H2 fun b H3 =>
      if b = true then tk σ2 H3 fun y H4 => tv σ2 H4 fun z H5 => ∃ kvs k, y = kV k ∧ H5 D = some (.dK kvs) ∧ kvs.length < sizeLine ∧ Pv (i + 1) (upd H5 D (.dK (putK kvs k z))) else Pv (i + 1) H3) (hd : ∀ H, Pv n H → Qd H) :
    ∃ W : Nat → Nat → Hp → Prop, (∃ m, W 0 m (upd H1 D (.dK []))) ∧ ∀ i m H, W i m H →
      (J.stop i H ∧ Qd H) ∨ (J.go i H ∧ ∃ Nx : Hp → Prop, (∀ H', Nx H' → ∃ m', m' < m ∧ W (i + 1) m' H') ∧ ∀ x H', J.yld i H x H' → g x (wipe σ vs) H' fun σ2 H2 => wipe σ2 vs = wipe σ vs ∧ tt σ2 H2 fun b H3 =>
        if b = true then tk σ2 H3 fun y H4 => tv σ2 H4 fun z H5 => ∃ kvs k, y = kV k ∧ H5 D = some (.dK kvs) ∧ kvs.length < sizeLine ∧ Nx (upd H5 D (.dK (putK kvs k z))) else Nx H3) := by
  refine ⟨fun i m H => m = n - i ∧ i ≤ n ∧ Pv i H, ⟨n, by simp, Nat.zero_le _, h0⟩, ?_⟩
  rintro i m H ⟨rfl, hi, p⟩
  have q := hG i H hi p
  by_cases hlt : i < n
  · refine .inr ⟨w.goes i H hlt q, Pv (i + 1), fun H' p' => ⟨n - (i + 1), by omega, rfl, hlt, p'⟩, fun x H' y => hs i x H H' hlt p (w.yields i H x H' hlt q y)⟩
  · have e : i = n := by omega
    subst e
    exact .inl ⟨w.stops H q, hd H p⟩
/-- what the new dict holds, turn by turn -/
def dcOk (k : Nat) (hT : T → List Ent → (List Ent → Prop) → Prop) (vt : List Ent → (Bool → List Ent → Prop) → Prop) (vk ve : List Ent → (Nat → T → List Ent → Prop) → Prop) (vs : List Nat) (R : Nat → T → List Ent → Prop) (_ : KDep R) (ts : List T) (ρ1 : List Ent) : Prop :=
  ∃ I : Nat → List Key → List T → List Ent → Prop, I 0 [] [] (notIn vs ρ1) ∧ (∀ i t ks us ρ, ts[i]? = some t → I i ks us ρ → hT t ρ fun ρ2 => vt ρ2 fun b ρ3 => if b = true then vk ρ3 fun _ kt ρ4 => ve ρ4 fun n u ρ5 => match tKey kt with
      | some q => fit k n u ∧ us.length < 1000000 ∧ I (i + 1) (putT ks us q u).1 (putT ks us q u).2 (notIn vs ρ5)
      | none => False
    else I (i + 1) ks us (notIn vs ρ3)) ∧
    ∀ ks us ρ, I ts.length ks us ρ → R (k + 1) (.nd (.dK ks) us) ρ
theorem Sta.dputT {K : PySem.W.Frag} {f : Fm} {H : Hp} {τ : List Root} {ρ : List Ent} {σ : St} {k m : Nat} {ks : List Key} {us : List T} {D : Addr} {FD F : List Addr} {u : T} {y : V} {q : Key} (s : Sta K f (tmp (k + 1) (.nd (.dK ks) us) (.ref D) FD :: τ ++ [tmp m u y F]) ρ σ H) (hnr : ∀ e ∈ ρ, (∀ t, e ≠ .ro t) ∧ ∀ j i t, e ≠ .al j i t) (hf : fit k m u) (hl1 : us.length < 1000000) :
    ∃ (kvs : List (Key × V)) (F' : List Addr), H D = some (.dK kvs) ∧ kvs.length < sizeLine ∧ Sta K f (tmp (k + 1) (.nd (.dK (putT ks us q u).1) (putT ks us q u).2) (.ref D) F' :: τ) ρ σ (upd H D (.dK (putK kvs q y))) := by
  have s1 : Sta K f (τ ++ [tmp m u y F]) (ρ ++ [.ow (k + 1) (.nd (.dK ks) us)]) (σ ++ [some (.ref D)]) H := Sta.toSlot s
  have hl : ρ.length = σ.length := by obtain ⟨S, rs, s⟩ := s; rw [← s.len, s.lenσ]
  have ho : ownD (ρ ++ [.ow (k + 1) (.nd (.dK ks) us)]) ρ.length = some (k, .dK ks, us) := by unfold ownD; rw [getElem?_last]
  have sk : ∃ t, tKey t = some q ∧ Shr K H (fun _ => True) t (kV q) := by
    cases q with
    | inl i => exact ⟨.int i, rfl, .int i⟩
    | inr x => exact ⟨.str x, rfl, .str x⟩
  obtain ⟨t, hk, sk⟩ := sk
  have hd : TL.dput (.dK ks) us t u = some (.dK (putT ks us q u).1, (putT ks us q u).2) := by rw [TL.dput, hk]; rfl
  obtain ⟨a, H', g1, pt, s2⟩ := s1.dput ho hf hd hl1 sk
  have ea : a = D := by
    rw [hl, getElem?_last] at g1
    cases g1; rfl
  subst ea
  have nd : ndSet ρ.length (ρ ++ [.ow (k + 1) (.nd (.dK ks) us)]) (.dK (putT ks us q u).1) (putT ks us q u).2 = ρ ++ [.ow (k + 1) (.nd (.dK (putT ks us q u).1) (putT ks us q u).2)] := by
    unfold ndSet
    rw [getElem?_last]
    have e1 : TL.killJ [ρ.length] ρ = ρ := by
      unfold TL.killJ
      rw [List.map_congr_left (g := id) (fun x hx => ?_), List.map_id]
      obtain ⟨a, b⟩ := hnr x hx
      cases x <;> first | rfl | exact absurd rfl (a _) | exact absurd rfl (b _ _ _)
    have e2 : TL.killJ [ρ.length] (ρ ++ [.ow (k + 1) (.nd (.dK ks) us)]) = ρ ++ [.ow (k + 1) (.nd (.dK ks) us)] := by
      show (ρ ++ _).map _ = _
      rw [List.map_append]
      show TL.killJ [ρ.length] ρ ++ _ = _
      rw [e1]; rfl
    show (TL.killJ [ρ.length] (ρ ++ [.ow (k + 1) (.nd (.dK ks) us)])).set ρ.length _ = _
    rw [e2, List.set_append_right _ _ (Nat.le_refl _), Nat.sub_self]
    rfl
  rw [nd] at s2
  rcases pt with ⟨kvs, q', h1, h2, h3, rfl⟩ | ⟨kvs, q', b, h1, h2, _⟩
  · have eq : q' = q := by cases q <;> cases q' <;> cases h2 <;> rfl
    subst eq
    obtain ⟨F', h4⟩ := s2.toTmp fun e he => (hnr e he).2
    exact ⟨kvs, F', h1, h3, h4⟩
  · cases q <;> cases h2
theorem dc_body {f : Fm} {τ : List Root} {σ σ2 : St} {D : Addr} {FD : List Addr} {ks : List Key} {us : List T} {ρ2 : List Ent} {H2 : Hp} {i : Nat} {I : Nat → List Key → List T → List Ent → Prop} (o4 : Offs vs σ2 (wipe σ vs))
    (s2 : Sta X.K f (tmp (k + 1) (.nd (.dK ks) us) (.ref D) FD :: τ) ρ2 σ2 H2) (h2 : vt ρ2 fun b ρ3 => if b = true then vk ρ3 fun _ kt ρ4 => ve ρ4 fun n u ρ5 => match tKey kt with
      | some q => fit k n u ∧ us.length < 1000000 ∧ I (i + 1) (putT ks us q u).1 (putT ks us q u).2 (notIn vs ρ5)
      | none => False
    else I (i + 1) ks us (notIn vs ρ3)) :
    canT X.K vt σ2 H2 fun b H3 => if b = true then canE X.K vk σ2 H3 fun y H4 => canE X.K ve σ2 H4 fun z H5 => ∃ kvs q, y = kV q ∧ H5 D = some (.dK kvs) ∧ kvs.length < sizeLine ∧ (fun H => ∃ ks us ρ0 FD, I (i + 1) ks us (notIn vs ρ0) ∧ Sta X.K f (tmp (k + 1) (.nd (.dK ks) us) (.ref D) FD :: τ) (notIn vs ρ0) (wipe σ vs) H) (upd H5 D (.dK (putK kvs q z)))
      else (fun H => ∃ ks us ρ0 FD, I (i + 1) ks us (notIn vs ρ0) ∧ Sta X.K f (tmp (k + 1) (.nd (.dK ks) us) (.ref D) FD :: τ) (notIn vs ρ0) (wipe σ vs) H) H3 := by
  refine ⟨f, _, ρ2, _, s2, h2, fun b ρ3 H3 h3 s3 => ?_⟩
  cases b with
  | false =>
    rw [if_neg Bool.false_ne_true] at h3 ⊢
    exact ⟨ks, us, ρ3, FD, h3, s3.notIn vs o4⟩
  | true =>
    rw [if_pos rfl] at h3 ⊢
    refine ⟨f, _, ρ3, _, s3, h3, fun n1 kt ρ4 y4 F4 H4 h4 s4 => ?_⟩
    refine ⟨f, _, ρ4, _, s4, h4, fun n u ρ5 z5 F5 H5 h5 s5 => ?_⟩
    split at h5
    · rename_i q hk
      obtain ⟨h5, h6, h7⟩ := h5
      have ey : y4 = kV q := tKey_shr hk s5.pop.last2
      have s6 : Sta X.K f ((tmp (k + 1) (.nd (.dK ks) us) (.ref D) FD :: τ) ++ [tmp n u z5 F5]) ρ5 σ2 H5 := s5.mid
      have s7 := s6.notIn vs o4
      obtain ⟨kvs, F', q1, q2, q3⟩ := Sta.dputT (q := q) s7 (notIn_nr vs ρ5) h5 h6
      exact ⟨kvs, q, ey, q1, q2, _, _, ρ5, F', h7, q3⟩
    · exact h5.elim
/-- {k: e for target in iter if ..} -/
def vDc (k : Nat) (wi : List Ent → (List T → List Ent → Prop) → Prop) (hT : T → List Ent → (List Ent → Prop) → Prop) (vt : List Ent → (Bool → List Ent → Prop) → Prop) (vk ve : List Ent → (Nat → T → List Ent → Prop) → Prop) (vs : List Nat) : List Ent → (Nat → T → List Ent → Prop) → Prop := fun ρ R => wi ρ (dcOk k hT vt vk ve vs R ())
def vDcD (k : Nat) (v : List Ent → (Nat → T → List Ent → Prop) → Prop) (hT : T → List Ent → (List Ent → Prop) → Prop) (vt : List Ent → (Bool → List Ent → Prop) → Prop) (vk ve : List Ent → (Nat → T → List Ent → Prop) → Prop) (vs : List Nat) : List Ent → (Nat → T → List Ent → Prop) → Prop := fun ρ R => v ρ fun _ t ρ1 => match t with
  | .nd (.dK ks) _ => dcOk k hT vt vk ve vs R () (ks.map kT) ρ1
  | .nd (.dT ks) _ => dcOk k hT vt vk ve vs R () (ks.map ktT) ρ1
  | _ => False
theorem dcd_core {f f' : Fm} {τ : List Root} {ρ1 : List Ent} {σ : St} {H1 : Hp} {d : Addr} {od : Obj} {ob : HO} {t : T} {ts : List T} {J : It} {Q : VK} {R : Nat → T → List Ent → Prop} {u : KDep R} (hj : ∀ j ∈ js, j ∈ vs)
    (lk : Lkd X f f' d od ob) (ith : ItD X.K J d od ob t ts) (s1 : Sta X.K f' (τ ++ shRoots [t] [.ref d]) ρ1 σ H1) (h2 : dcOk k hT vt vk ve vs R u ts ρ1) (hq : ∀ n t ρ' v F H', R n t ρ' → Sta X.K f (τ ++ [tmp n t v F]) ρ' σ H' → Q v H') :
    ∀ D, H1 D = none → ∃ W : Nat → Nat → Hp → Prop, (∃ m, W 0 m (upd H1 D (.dK []))) ∧ ∀ i m H, W i m H →
      (J.stop i H ∧ Unl X (Q (.ref D)) H) ∨ (J.go i H ∧ ∃ Nx : Hp → Prop, (∀ H', Nx H' → ∃ m', m' < m ∧ W (i + 1) m' H') ∧ ∀ x H', J.yld i H x H' → canG X.K js hT x (wipe σ vs) H' fun σ2 H2 => wipe σ2 vs = wipe σ vs ∧ canT X.K vt σ2 H2 fun b H3 =>
        if b = true then canE X.K vk σ2 H3 fun y H4 => canE X.K ve σ2 H4 fun z H5 => ∃ kvs k, y = kV k ∧ H5 D = some (.dK kvs) ∧ kvs.length < sizeLine ∧ Nx (upd H5 D (.dK (putK kvs k z))) else Nx H3) := by
  intro D hD
  obtain ⟨I, i0, hI, hend⟩ := h2
  have wk : Walk J ts.length (fun H => H d = some (.frz od ob)) (fun i H x H' => J.yld i H x H' ∧ H d = some (.frz od ob)) :=
    ⟨fun i H hi h => ith.goes i H h hi, fun H h => ith.stops H h, fun i H x H' _ h y => ⟨y, h⟩⟩
  let Pv : Nat → Hp → Prop := fun i H => ∃ ks us ρ0 FD, I i ks us (notIn vs ρ0) ∧ Sta X.K f' (tmp (k + 1) (.nd (.dK ks) us) (.ref D) FD :: (τ ++ shRoots [t] [.ref d])) (notIn vs ρ0) (wipe σ vs) H
  have pop1 : ∀ {r : Root} {H ρ σ}, Sta X.K f' (r :: (τ ++ shRoots [t] [.ref d])) ρ σ H → Sta X.K f' (τ ++ shRoots [t] [.ref d]) ρ σ H := fun s => s.rot.pop
  have swap : ∀ {r : Root} {H ρ σ}, Sta X.K f' (r :: (τ ++ shRoots [t] [.ref d])) ρ σ H → Sta X.K f' (r :: τ) ρ σ H := fun {r H ρ σ} s => by
    have s : Sta X.K f' ((r :: τ) ++ shRoots [t] [.ref d]) ρ σ H := s
    exact s.pop
  refine dc_it wk Pv ?_ (fun i H _ h => ?_) (fun i x H H' hi h y => ?_) fun H h => ?_
  · obtain ⟨S, rs, s⟩ := s1.notIn vs (offs_wipe (σ := σ))
    exact ⟨[], [], ρ1, _, i0, Sta.torF ⟨S, rs, s.pushNew (kd := .dK []) (o := .dK []) (vs := []) hD ⟨rfl, List.nodup_nil, rfl⟩ (n := k) .nil⟩⟩
  · obtain ⟨ks, us, ρ0, FD, im, s⟩ := h
    exact lk.at' _ _ _ _ (pop1 s)
  · obtain ⟨ks, us, ρ0, FD, im, s⟩ := h
    obtain ⟨S, rs, s⟩ := s
    have s0 : StaW X.K f' ((tmp (k + 1) (.nd (.dK ks) us) (.ref D) FD :: τ) ++ shRoots [t] [.ref d] ++ []) (notIn vs ρ0) (wipe σ vs) H S rs := by rw [List.append_nil]; exact s
    obtain ⟨v', e', shr⟩ := shrs1 (s0.shr rfl)
    cases e'
    obtain ⟨t', e1, sm, x1⟩ := ith.yields i H S x H' hi y.2 shr y.1
    refine ⟨f', _, _, _, rs, t', _, s.grow sm, shr_grown x1, hI i t' ks us _ e1 im, fun ρ2 σ2 rs2 h2 o2 s2 => ?_⟩
    have o3 : Offs vs σ σ2 := ⟨o2.1.trans (wipe_length _ _), fun m hm => (o2.2 m fun z => hm (hj m z)).trans (wipe_out hm)⟩
    have o4 : Offs vs σ2 (wipe σ vs) := ⟨o2.1.symm, fun m hm => (o2.2 m fun z => hm (hj m z)).symm⟩
    exact ⟨wipe_eq o3, dc_body o4 ⟨_, _, s2⟩ h2⟩
  · obtain ⟨ks, us, ρ0, FD, im, s⟩ := h
    have s2 := (swap s).notIn vs (offs_wipe (σ := σ)).symm
    rw [notIn_idem] at s2
    exact lk.back _ _ _ _ _ s2.rot fun H2 s3 => hq (k + 1) (.nd (.dK ks) us) _ _ FD H2 (hend ks us _ im) s3
theorem tv_dcD (k : Nat) (js : List Nat) (hc : X.calm = true) (hN : X.N.Nodup) (hi : TVE X e v) (ok : BlkOk X.N X.env.scope scope own)
    (hg : ∀ (s : Shared) (H : Hp) (C : Addr) (cl : List (Str × Addr)) (fp : List Addr), TTg (X.blk s H scope (compEnvC scope cl C X.env) fp) tg js hT) (ht : ∀ (s : Shared) (H : Hp) (C : Addr) (cl : List (Str × Addr)) (fp : List Addr), TVTs (X.blk s H scope (compEnvC scope cl C X.env) fp) ifs vt)
    (hk : ∀ (s : Shared) (H : Hp) (C : Addr) (cl : List (Str × Addr)) (fp : List Addr), TVE (X.blk s H scope (compEnvC scope cl C X.env) fp) kx vk) (he : ∀ (s : Shared) (H : Hp) (C : Addr) (cl : List (Str × Addr)) (fp : List Addr), TVE (X.blk s H scope (compEnvC scope cl C X.env) fp) elt ve)
    (hj : ∀ j ∈ js, j ∈ own.map (·.2) := by decide) (hs : ∀ x, foldedSetIterable e X.env x = pure x := by intro _; rfl) :
    TVE X (.DictComp kx elt [⟨tg, e, ifs, 0⟩] scope pos) (vDcD k v hT vt vk ve (own.map (·.2))) := by
  obtain ⟨te, pe, ke⟩ := hi.ok
  refine ⟨⟨_, pe_unl (pe_dc (g := canG X.K js hT) (tt := canT X.K vt) (tk := canE X.K vk) (tv := canE X.K ve) hc hN (pi_keys (pe_L pe)) ok (fun s H C cl fp => (hg s H C cl fp).can) (fun s H C cl fp => (ht s H C cl fp).can) (fun s H C cl fp => (hk s H C cl fp).can) (fun s H C cl fp => (he s H C cl fp).can) hs), fun f τ ρ σ H Q R h1 hw hq => ?_⟩⟩
  refine ke f τ ρ σ H _ _ h1 hw fun n t ρ1 v F H1 h2 s1 => ?_
  obtain ⟨S, rs, s2⟩ := s1.fit0
  cases t using T.cs <;> first | exact h2.elim | skip
  · rename_i ks us
    obtain ⟨d, o, ws, rfl, ⟨od, L⟩ | ⟨hd, mu, L⟩⟩ := lkd_any s2 rfl
    · obtain ⟨⟨hk, hn, rfl⟩, hl2, ⟨f', lk, s3⟩, hd⟩ := L
      exact .inl ⟨d, od, rfl, .inl ⟨_, hd, dcd_core hj lk (itd_keys hk) s3 h2 hq⟩⟩
    · refine .inr ⟨d, o, rfl, hd, mu, fun od nf => ?_⟩
      obtain ⟨⟨hk, hn, rfl⟩, hl2, ⟨f', lk, s3⟩, hd⟩ := L od nf
      exact ⟨d, od, rfl, .inl ⟨_, hd, dcd_core hj lk (itd_keys hk) s3 h2 hq⟩⟩
  · rename_i ks us
    obtain ⟨d, o, ws, rfl, ⟨od, L⟩ | ⟨hd, mu, L⟩⟩ := lkd_any s2 rfl
    · obtain ⟨⟨hk, hn, rfl⟩, hl2, ⟨f', lk, s3⟩, hd⟩ := L
      exact .inl ⟨d, od, rfl, .inr ⟨_, hd, dcd_core hj lk (itd_keysT hk) s3 h2 hq⟩⟩
    · refine .inr ⟨d, o, rfl, hd, mu, fun od nf => ?_⟩
      obtain ⟨⟨hk, hn, rfl⟩, hl2, ⟨f', lk, s3⟩, hd⟩ := L od nf
      exact ⟨d, od, rfl, .inr ⟨_, hd, dcd_core hj lk (itd_keysT hk) s3 h2 hq⟩⟩
end
end TL
set_option Elab.async false
set_option linter.all false
set_option maxRecDepth 100000
/-! TL40: sorted of lists of data, of dicts with tuple keys; x in a list of data -/
namespace L2
open PySem PySem.Spec PyProof.Rows
def keyPd : Key → PyData
  | .inl i => .int i
  | .inr s => .str s
theorem sortLe_perm {β : Type} (enc : β → PyData) (zs : List β) : (zs.mergeSort (PySem.W.dataLe false enc)).Perm zs ∧ (zs.mergeSort (PySem.W.dataLe false enc)).Pairwise (fun x y => PySem.W.dataLt (enc y) (enc x) = false) := by
  refine ⟨List.mergeSort_perm _ _, ?_⟩
  refine (PySem.W.sort_pairwise (PySem.W.sortLe_total (PyProof.Rows.listOrd PyProof.Rows.itemOrd) false fun b => PySem.W.keyToks (enc b)) zs).imp fun {x y} h => ?_
  have h' : (!PySem.W.dataLt (enc y) (enc x)) = true := h
  simpa using h'
theorem each_sort {β : Type} {enc : β → PyData} {h : Heap} : ∀ {xs : List V} {its : List Value} {bs : List β} {as : List Addr}, Vals xs its → ReadsAll h its (bs.map enc) as →
    PySem.W.EachIs (fun v (z : V × β) => RelV z.1 v ∧ ∃ as, Reads h v (enc z.2) as) its (xs.zip bs) ∧ xs.length = bs.length
  | _, _, [], _, .nil, _ => ⟨.nil, rfl⟩
  | _, _, b :: bs, _, .nil, r => by
    have r' : ReadsAll h [] (enc b :: bs.map enc) _ := r
    cases r'
  | _, _, [], _, .cons _ _, r => by
    have r' : ReadsAll h _ [] _ := r
    cases r'
  | _, _, b :: bs, _, .cons rv t, r => by
    have r' : ReadsAll h _ (enc b :: bs.map enc) _ := r
    cases r' with
    | cons h1 h2 =>
      obtain ⟨e, l⟩ := each_sort t h2
      exact ⟨.cons ⟨rv, _, h1⟩ e, by rw [List.length_cons, List.length_cons, l]⟩
theorem vals_each {β : Type} : ∀ {out : List Value} {zs : List (V × β)}, PySem.W.EachIs (fun v (z : V × β) => RelV z.1 v) out zs → Vals (zs.map (·.1)) out
  | _, _, .nil => .nil
  | _, _, .cons h t => .cons h (vals_each t)
theorem zip_snd {α β : Type} (f : β → PyData) : ∀ {xs : List α} {bs : List β}, xs.length = bs.length → ((xs.zip bs).map fun z => f z.2) = bs.map f
  | [], [], _ => rfl
  | _ :: xs, b :: bs, h => by
    have h' : xs.length = bs.length := by simpa using h
    rw [List.zip_cons_cons, List.map_cons, List.map_cons, zip_snd f h']
/-- sorted(xs), xs a list of data -/
def rSortG (K : PySem.W.Frag) : List V → Hp → VK → Prop := fun vs H Q => ∃ (β : Type) (enc : β → PyData) (a : Addr) (xs : List V) (bs : List β), vs = [V.ref a] ∧ SqL K H a xs ∧ DpAll K H xs (bs.map enc) ∧
  PySem.W.AllAlike (bs.map enc) ∧ PySem.W.Sortable (bs.map enc) ∧ (∀ b ∈ bs, (enc b).depth ≤ 32) ∧
  ∀ (zs : List (V × β)) (p : Addr), zs.Perm (xs.zip bs) → zs.Pairwise (fun x y => PySem.W.dataLt (enc y.2) (enc x.2) = false) → H p = none → Q (.ref p) (upd H p (.lst (zs.map (·.1))))
theorem cr_sortG {X : Cx} (hu : X.A.units + 64 < cLine) : CallR X (.builtin "sorted") (rSortG X.K) := by
  intro pins s σ H vs us Q I r h
  obtain ⟨β, enc, a, xs, bs, rfl, hs, hd, hal, hk, hdp, q⟩ := h
  obtain ⟨its, rv, hl, hz⟩ := I.list hs
  obtain ⟨u, rfl, ru⟩ := vals1 r
  obtain rfl : u = Value.ref a := ru
  obtain ⟨as, r1⟩ := Dp.readsAll I _ xs its hd rv
  obtain ⟨e, le⟩ := each_sort rv r1
  have em : (xs.zip bs).map (fun z => enc z.2) = bs.map enc := zip_snd enc le
  have lz : (xs.zip bs).length = xs.length := by rw [List.length_zip, le, Nat.min_self]
  refine PySem.W.sorted_data (β := V × β) (enc := fun z => enc z.2) (R := fun v z => RelV z.1 v) hl.isList (e.mono fun _ _ z => z.1) (e.mono fun _ _ z => z.2) (by rw [em]; exact hal) (by rw [em]; exact hk) (by rw [lz]; exact hz) (fun b hb => ?_) fun out ho eo => ?_
  · have z := hdp b.2 (List.of_mem_zip hb).2
    omega
  · obtain ⟨p1, p2⟩ := sortLe_perm (fun z : V × β => enc z.2) (xs.zip bs)
    obtain ⟨ep, he'⟩ := PyProof.Rows.sortedAll_at s.heap its out.toArray
    have hn : H (s.heap.objs.size + 1) = none := I.hok.fresh (Nat.le_succ _)
    exact ⟨.ref _, _, I.laid (t' := s.toks) (o := .lst (((xs.zip bs).mergeSort (PySem.W.dataLe false fun z : V × β => enc z.2)).map (·.1))) (fun _ _ => PyProof.Rows.sortedAll_old) (Nat.le_succ _) ⟨by rw [List.length_map, p1.length_eq, lz]; exact hz, out, ep, vals_each eo, he'⟩, rfl, q _ _ p1 p2 hn⟩
/-- sorted(d), d with tuple keys -/
def rSortDT : List V → Hp → VK → Prop := fun vs H Q => ∃ (a : Addr) (kvs : List (List Key × V)), vs = [V.ref a] ∧ Rd H a (.dT kvs) ∧
  PySem.W.AllAlike (kvs.map fun z => PyData.tuple (z.1.map keyPd)) ∧ PySem.W.Sortable (kvs.map fun z => PyData.tuple (z.1.map keyPd)) ∧
  ∀ (zs : List (Addr × List Key)) (p : Addr), (zs.map (·.2)).Perm (kvs.map (·.1)) → zs.Pairwise (fun x y => PySem.W.dataLt (.tuple (y.2.map keyPd)) (.tuple (x.2.map keyPd)) = false) → (∀ z ∈ zs, H z.1 = some (.tup (z.2.map kV))) →
    H p = none → Q (.ref p) (upd H p (.lst (zs.map fun z => V.ref z.1)))
theorem keyDps {K : PySem.W.Frag} {H : Hp} : ∀ k : List Key, DpAll K H (k.map kV) (k.map keyPd)
  | [] => .nil
  | .inl i :: k => .cons (.int i) (keyDps k)
  | .inr s :: k => .cons (.str s) (keyDps k)
theorem keyDep : ∀ k : List Key, PyData.depthAll (k.map keyPd) = 0
  | [] => by simp [PyData.depthAll]
  | .inl i :: k => by
    show PyData.depthAll (.int i :: k.map keyPd) = 0
    rw [PyData.depthAll, keyDep k]
    simp [PyData.depth]
  | .inr s :: k => by
    show PyData.depthAll (.str s :: k.map keyPd) = 0
    rw [PyData.depthAll, keyDep k]
    simp [PyData.depth]
theorem keyReadsAll {h : Heap} : ∀ {k : List Key} {vs : List Value} {as : List Addr}, ReadsAll h vs (k.map keyPd) as → as = []
  | [], _, _, r => by
    have r' : ReadsAll h _ [] _ := r
    cases r'
    rfl
  | .inl i :: k, _, _, r => by
    have r' : ReadsAll h _ (.int i :: k.map keyPd) _ := r
    cases r' with
    | cons h1 h2 =>
      cases h1
      rw [keyReadsAll h2]
      rfl
  | .inr i :: k, _, _, r => by
    have r' : ReadsAll h _ (.str i :: k.map keyPd) _ := r
    cases r' with
    | cons h1 h2 =>
      cases h1
      rw [keyReadsAll h2]
      rfl
theorem keyReads {h : Heap} {k : List Key} {v : Value} {as : List Addr} (r : Reads h v (.tuple (k.map keyPd)) as) : as = [] := by
  cases r with
  | tuple h1 h2 h3 h4 => exact keyReadsAll h4
theorem each_keys {h : Heap} : ∀ {ks : List (Addr × List Key)}, (∀ z ∈ ks, ∃ as, Reads h (Value.ref z.1) (.tuple (z.2.map keyPd)) as) →
    PySem.W.EachIs (fun v (z : Addr × List Key) => v = Value.ref z.1 ∧ ∃ as, Reads h v (.tuple (z.2.map keyPd)) as) (ks.map fun z => Value.ref z.1) ks
  | [], _ => .nil
  | k :: ks, h => .cons ⟨rfl, h k List.mem_cons_self⟩ (each_keys fun z hz => h z (List.mem_cons_of_mem _ hz))
theorem vals_eachR : ∀ {out : List Value} {zs : List (Addr × List Key)}, PySem.W.EachIs (fun v (z : Addr × List Key) => v = Value.ref z.1) out zs → Vals (zs.map fun z => V.ref z.1) out
  | _, _, .nil => .nil
  | _, _, .cons h t => .cons (show RelV (.ref _) _ by rw [h]; rfl) (vals_eachR t)
theorem kt_keys {H : Hp} {kvs : List (List Key × V)} {ks : List (List Key × Addr × Value)} (pr : KT H kvs ks) : kvs.map (·.1) = (ks.map fun x => (x.2.1, x.1)).map (·.2) ∧ ∀ y ∈ ks.map (fun x => (x.2.1, x.1)), H y.1 = some (.tup (y.2.map kV)) := by
  induction pr with
  | nil => exact ⟨rfl, fun y hy => absurd hy (by simp)⟩
  | @cons p q ps qs h t ih =>
    obtain ⟨e1, e2⟩ := ih
    obtain ⟨h1, h2, h3⟩ := h
    refine ⟨?_, fun y hy => ?_⟩
    · show p.1 :: ps.map (·.1) = q.1 :: (qs.map fun x => (x.2.1, x.1)).map (·.2)
      rw [h1, e1]
    · rcases List.mem_cons.mp hy with e | hy
      · subst e
        show H q.2.1 = some (.tup (q.1.map kV))
        rw [← h1]
        exact h2
      · exact e2 y hy
theorem each_no {h : Heap} {a : Addr} : ∀ {ks : List (Addr × List Key)}, (∀ z ∈ ks, ∃ as, Reads h (Value.ref z.1) (.tuple (z.2.map keyPd)) as ∧ a ∉ as) →
    PySem.W.EachIs (fun v (z : Addr × List Key) => ∃ as, Reads h v (.tuple (z.2.map keyPd)) as ∧ a ∉ as) (ks.map fun z => Value.ref z.1) ks
  | [], _ => .nil
  | k :: ks, h => .cons (h k List.mem_cons_self) (each_no fun z hz => h z (List.mem_cons_of_mem _ hz))
theorem cr_sortDT {X : Cx} (hc : X.calm = true) (hu : X.A.units + 64 < cLine) : CallR X (.builtin "sorted") rSortDT := by
  intro pins s σ H vs us Q I r h
  obtain ⟨d, kvs, rfl, hd, hal, hk, q⟩ := h
  obtain ⟨u, rfl, rx⟩ := vals1 r
  cases rx
  obtain ⟨z, hs, ks, pr, o, es, ep, ho, hx, hdt, he, hn⟩ := (show ObjOk X.prog X.w H s.heap d (.dT kvs) from hd.ok I.hok)
  have l1 : es.size = ks.length := size_of_entries he
  have l2 : kvs.length = ks.length := Paired.length pr
  refine Calls.call_function_entry PyProof.Rows.kind_sorted PyProof.Rows.plain_sorted PyProof.Rows.entry_sorted (PyProof.Rows.args_sorted1 _) ?_
  unfold Builtin.«sorted»
  refine wpAny_bind (m := checkCount "sorted" 1 1 _) (wpAny_pure ?_)
  refine wpAny_bind (PySem.W.kdu_collect (A := X.A.in1) (kdl_raw hs hx hdt) (I.ok.hd hc) ho (by omega) fun h' tk acc' hk' it => ?_)
  have ea : acc'.toList = ks.map fun x => Value.ref x.2.1 := by
    have hl : acc'.toList.length = ks.length := by rw [Array.length_toList, it.1]; exact l1
    apply List.ext_getElem?
    intro j
    rw [List.getElem?_map]
    cases hj : acc'.toList[j]? with
    | none =>
      have h1 := List.getElem?_eq_none_iff.mp hj
      rw [List.getElem?_eq_none (by omega)]
      all_goals rfl
    | some v =>
      obtain ⟨en, hen, hv⟩ := it.2 j v (by rw [← Array.getElem?_toList]; exact hj)
      have qe := entry_at he j
      rw [hen] at qe
      cases hb : ks[j]? with
      | none =>
        rw [hb] at qe
        exact nomatch (show some en = none from qe)
      | some b =>
        rw [hb] at qe
        have e2 : en = entryOfKey (tupleKind (mixKind X.prog X.w)) b := Option.some.inj qe
        rw [hv, e2]
        all_goals rfl
  have I1 : Inv X pins σ H { s with heap := h', toks := tk } := I.kept hk'
  refine wpAny_bind (wpAny_newList ?_ (by rw [ea, List.length_map, ← l2]; exact z))
  -- the keys
  obtain ⟨ek, eH⟩ := kt_keys pr
  have ez : kvs.map (fun z => PyData.tuple (z.1.map keyPd)) = (ks.map fun x => (x.2.1, x.1)).map fun z => PyData.tuple (z.2.map keyPd) := by
    have e := congrArg (List.map fun k : List Key => PyData.tuple (k.map keyPd)) ek
    rw [List.map_map, List.map_map] at e
    exact e
  have ea2 : acc'.toList = (ks.map fun x => (x.2.1, x.1)).map fun z => Value.ref z.1 := by rw [ea, List.map_map]; rfl
  generalize hK : ks.map (fun x => (x.2.1, x.1)) = kz at ez ek eH ea2
  have hoL : (h'.push (seqObj "list" acc'.toList.toArray 0)).get? h'.objs.size = some (seqObj "list" acc'.toList.toArray 0) := Heap.get?_push_size _ rfl
  show wpAny _ _ _ _ _ { s with heap := h'.push (seqObj "list" acc'.toList.toArray 0), toks := tk }
  have rd : ∀ y ∈ kz, ∃ as, Reads (h'.push (seqObj "list" acc'.toList.toArray 0)) (Value.ref y.1) (.tuple (y.2.map keyPd)) as := fun y hy => by
    obtain ⟨as, r1⟩ := Dp.reads I1 (.tuple (y.2.map keyPd)) (.ref y.1) (.ref y.1) (.tup (.inl (.inl (eH y hy))) (keyDps _)) rfl
    exact ⟨as, PyProof.Rows.Reads.keeps (fun b o e => Heap.get?_push_of_some _ e) r1⟩
  have no : ∀ y ∈ kz, ∃ as, Reads (h'.push (seqObj "list" acc'.toList.toArray 0)) (Value.ref y.1) (.tuple (y.2.map keyPd)) as ∧ h'.objs.size ∉ as := fun y hy => by
    obtain ⟨as, r1⟩ := rd y hy
    exact ⟨as, r1, by rw [keyReads r1]; exact List.not_mem_nil⟩
  have eR := (each_keys rd).mono fun _ _ z => z.1
  rw [← ea2] at eR
  have eN := each_no no
  rw [← ea2] at eN
  have lk : kz.length = kvs.length := by
    have e := congrArg List.length ek
    rw [List.length_map, List.length_map] at e
    exact e.symm
  refine wpAny_bind (wpAny_holding (PySem.W.list_sort_data (s := { s with heap := h'.push (seqObj "list" acc'.toList.toArray 0), toks := tk }) (β := Addr × List Key) (enc := fun z => PyData.tuple (z.2.map keyPd)) (R := fun v z => v = Value.ref z.1) hoL eR eN (by exact ez ▸ hal) (by exact ez ▸ hk) (by rw [lk]; exact z) (fun b hb => ?_) fun out ho' eo => ?_))
  · have z : (PyData.tuple (b.2.map keyPd)).depth = 1 := by rw [PyData.depth, keyDep]
    rw [z]
    show X.A.in1.units + 1 + 1 < cLine
    have : X.A.in1.units = X.A.units + 1 := rfl
    omega
  · obtain ⟨p1, p2⟩ := sortLe_perm (fun z : Addr × List Key => PyData.tuple (z.2.map keyPd)) kz
    obtain ⟨e', he'⟩ := PyProof.Rows.sortedHeap_at (vs := acc'.toList) (out := out.toArray) hoL
    have hlen : ((kz.mergeSort (PySem.W.dataLe false fun z : Addr × List Key => PyData.tuple (z.2.map keyPd))).map fun z => V.ref z.1).length ≤ sizeLine := by
      rw [List.length_map, p1.length_eq, lk]; exact z
    refine wpAny_pure ⟨_, rfl, .ref h'.objs.size, _, I1.laid (t' := tk) (o := .lst ((kz.mergeSort (PySem.W.dataLe false fun z : Addr × List Key => PyData.tuple (z.2.map keyPd))).map fun z => V.ref z.1)) (fun b u e => ?_) (Nat.le_refl _)
      ⟨hlen, out, e', vals_eachR eo, he'⟩, rfl, q _ _ (by rw [ek]; exact p1.map _) p2 (fun y hy => eH y (p1.mem_iff.mp hy)) (I1.hok.fresh (Nat.le_refl _))⟩
    have hb : b < h'.objs.size := Heap.lt_size e
    rw [PyProof.Rows.sortedHeap_old (Nat.ne_of_lt hb) (by rw [size_push']; exact Nat.lt_succ_of_lt hb)]
    exact Heap.get?_push_of_some _ e
end L2

namespace TL
open PySem PySem.Spec PyProof.Rows L2
/-! ### x in xs, deep -/
def gInD (neg : Bool) : F2 := fun t u R => match u with
  | .nd .lst us => t.eqok = true ∧ (T.lst us).eqok = true ∧ R (.bl (if neg then !us.any (fun z => z.eqv t) else us.any fun z => z.eqv t))
  | _ => False
theorem pds_any (t : T) : ∀ us : List T, ((T.pds us).any fun z => PyData.eqv z t.pd) = us.any fun z => z.eqv t
  | [] => rfl
  | u :: us => by
    rw [T.pds, List.any_cons, List.any_cons, pds_any t us]
    rfl
section
variable {K : PySem.W.Frag}
theorem opT_inD : OpT K (rInD K) (gInD false) := by
  intro S H x y t u Q R h1 h2 hg hq
  cases u using T.cs <;> first | exact hg.elim | skip
  rename_i us
  obtain ⟨g1, g2, g3⟩ := hg
  unfold T.eqok at g1 g2
  rw [Bool.and_eq_true] at g1 g2
  refine ⟨t.pd, T.pds us, h1.dp g1.1, h2.dp g2.1, g1.2, g2.2, ?_⟩
  rw [pds_any]
  exact hq _ _ _ g3 (Same.refl H) (.bl _)
theorem opT_notInD : OpT K (rNotInD K) (gInD true) := by
  intro S H x y t u Q R h1 h2 hg hq
  cases u using T.cs <;> first | exact hg.elim | skip
  rename_i us
  obtain ⟨g1, g2, g3⟩ := hg
  unfold T.eqok at g1 g2
  rw [Bool.and_eq_true] at g1 g2
  refine ⟨t.pd, T.pds us, h1.dp g1.1, h2.dp g2.1, g1.2, g2.2, ?_⟩
  rw [pds_any]
  exact hq _ _ _ g3 (Same.refl H) (.bl _)
end
theorem inU {k : Nat} {A : Around} (hr : Room k A) : A.units + 65 < cLine := by have := hr.un; omega
/-! ### sorted -/
/-- what can be sorted -/
structure SrtOk (us : List T) : Prop where
  data : ∀ t ∈ us, t.data = true
  flat : T.flats us = true
  alike : ∀ t ∈ us, ∀ u ∈ us, PySem.W.alike t.pd u.pd = true
  kind : PySem.W.Sortable (us.map T.pd)
  deep : ∀ t ∈ us, t.pd.depth ≤ 32
def leD (x y : T) : Prop := PySem.W.dataLt y.pd x.pd = false
section
variable {X : Cx} {e : Expr} {p pos : Pos} {ks : List Nat} {vA : List Ent → (List T → List Ent → Prop) → Prop}
def vSortG (vA : List Ent → (List T → List Ent → Prop) → Prop) : List Ent → (Nat → T → List Ent → Prop) → Prop := fun ρ R => vA ρ fun ts ρ' => match ts with
  | [.nd .lst us] => SrtOk us ∧ ∀ qs : List T, qs.Perm us → qs.Pairwise leD → R 1 (.lst qs) ρ'
  | _ => False
theorem pds_map : ∀ us : List T, T.pds us = us.map T.pd
  | [] => rfl
  | u :: us => by rw [T.pds, pds_map us]; rfl
theorem datas_iff : ∀ {us : List T}, (∀ t ∈ us, t.data = true) → T.datas us = true
  | [], _ => rfl
  | u :: us, h => by rw [T.datas, h u List.mem_cons_self, datas_iff fun t ht => h t (List.mem_cons_of_mem _ ht)]; rfl
theorem flats_iff' : ∀ {us : List T}, T.flats us = true ↔ ∀ t ∈ us, t.flat = true := by
  intro us
  exact flatAts_iff
/-- sorted(e), e a list of data -/
theorem tv_sortG (hu : X.A.units + 64 < cLine) (hg : Gl X "sorted") (hm : X.mg "sorted" = none) (ha : TVA X ks [e] vA) (hv : bootBuiltins "sorted" = some (.builtin "sorted") := by decide +kernel) (hs : starEach [e] X.env = (false, eval e X.env) :: starEach [] X.env := by rfl) (hpl : (backTo pos (starEach [] X.env)).any (·.1) = false := by rfl) :
    TVE X (.Call (.Name "sorted" p) [e] [] pos) (vSortG vA) := by
  obtain ⟨ta, pa, ka⟩ := ha.ok
  refine ⟨⟨_, pe_callB (cr_sortG hu) hg hm hv pa (by decide) (by decide) hs hpl, fun f τ ρ σ H Q R h1 hw hq => ?_⟩⟩
  refine ka f τ ρ σ H _ _ h1 hw fun ts ρ' vs ms H1 h2 h3 s1 => ?_
  split at h2
  case h_2 => exact h2.elim
  rename_i us
  obtain ⟨ok, hR⟩ := h2
  obtain ⟨v, rfl, x1⟩ := shrs1 (s1.shrs h3)
  obtain ⟨a, xs, rfl, q, r⟩ := shr_lst x1
  have lx : us.length = xs.length := r.length
  have item : ∀ (i : Nat) (w : V) (g : T), xs[i]? = some w → us[i]? = some g → Shr X.K H1 (fun _ => True) g w := fun i w g g1 g2 => by
    obtain ⟨w', g3, g4⟩ := r.get g2
    rw [g1] at g3
    cases g3
    exact g4
  refine ⟨T, T.pd, a, xs, us, rfl, q.sq, by rw [← pds_map]; exact r.dp (datas_iff ok.data), fun d hd d' hd' => ?_, ok.kind, ok.deep, fun zs p' hp hso hn => ?_⟩
  · obtain ⟨t, ht, rfl⟩ := List.mem_map.mp hd
    obtain ⟨u, hu', rfl⟩ := List.mem_map.mp hd'
    exact ok.alike t ht u hu'
  · have mem : ∀ z ∈ zs, Shr X.K H1 (fun _ => True) z.2 z.1 := fun z hz => by
      obtain ⟨i, hi⟩ := List.mem_iff_getElem?.mp (hp.mem_iff.mp hz)
      obtain ⟨g1, g2⟩ := List.getElem?_zip_eq_some.mp hi
      exact item i z.1 z.2 g1 g2
    have shs : ∀ zs : List (V × T), (∀ z ∈ zs, Shr X.K H1 (fun _ => True) z.2 z.1) → Shrs X.K H1 (fun _ => True) (zs.map (·.2)) (zs.map (·.1)) := by
      intro zs
      induction zs with
      | nil => exact fun _ => .nil
      | cons z zs ih => exact fun h => Shrs.cons (h z List.mem_cons_self) (ih fun y hy => h y (List.mem_cons_of_mem _ hy))
    have perm : (zs.map (·.2)).Perm us := by
      have z := hp.map Prod.snd
      rwa [List.map_snd_zip (by omega)] at z
    have fl : T.flats (zs.map (·.2)) = true := flats_iff'.mpr fun t ht => flats_iff'.mp ok.flat t (perm.mem_iff.mp ht)
    have hsm : Same H1 (upd H1 p' (.lst (zs.map (·.1)))) := Same.new hn nt_lst
    have sh2 := Owns.keep (S' := fun _ => True) (fun _ z => z) (shs zs mem) (.same hsm)
    obtain ⟨S, rs, s⟩ := s1.pop
    exact hq 1 _ ρ' _ _ _ (hR _ perm (List.pairwise_map.mpr hso)) ⟨S, rs, s.pushNew (kd := .lst) hn rfl ((Owns.flat0 sh2 fl).2 0 S)⟩
def vSortDT (vA : List Ent → (List T → List Ent → Prop) → Prop) : List Ent → (Nat → T → List Ent → Prop) → Prop := fun ρ R => vA ρ fun ts ρ' => match ts with
  | [.nd (.dT ks) us] => SrtOk (ks.map ktT) ∧ ∀ qs : List T, qs.Perm (ks.map ktT) → qs.Pairwise leD → R 1 (.lst qs) ρ'
  | _ => False
theorem pd_kt (k : List Key) : (ktT k).pd = .tuple (k.map keyPd) := by
  have e : ∀ k : List Key, T.pds (k.map kT) = k.map keyPd := by
    intro k
    induction k with
    | nil => rfl
    | cons x k ih => cases x <;> (rw [List.map_cons, T.pds, ih]; rfl)
  show PyData.tuple (T.pds (k.map kT)) = _
  rw [e]
/-- sorted(d), d with tuple keys -/
theorem tv_sortDT (hc : X.calm = true) (hu : X.A.units + 64 < cLine) (hg : Gl X "sorted") (hm : X.mg "sorted" = none) (ha : TVA X ks [e] vA) (hv : bootBuiltins "sorted" = some (.builtin "sorted") := by decide +kernel) (hs : starEach [e] X.env = (false, eval e X.env) :: starEach [] X.env := by rfl) (hpl : (backTo pos (starEach [] X.env)).any (·.1) = false := by rfl) :
    TVE X (.Call (.Name "sorted" p) [e] [] pos) (vSortDT vA) := by
  obtain ⟨ta, pa, ka⟩ := ha.ok
  refine ⟨⟨_, pe_callB (cr_sortDT hc hu) hg hm hv pa (by decide) (by decide) hs hpl, fun f τ ρ σ H Q R h1 hw hq => ?_⟩⟩
  refine ka f τ ρ σ H _ _ h1 hw fun ts ρ' vs ms H1 h2 h3 s1 => ?_
  split at h2
  case h_2 => exact h2.elim
  rename_i ks us
  obtain ⟨ok, hR⟩ := h2
  obtain ⟨v, rfl, x1⟩ := shrs1 (s1.shrs h3)
  obtain ⟨a, ws, rfl, ⟨ob, i, q⟩, r⟩ := shr_nd x1
  have rd : Rd H1 a ob := by
    rcases q with ⟨q, _⟩ | ⟨_, z, q⟩
    · exact .inl q
    · exact .inr ⟨z, q⟩
  obtain ⟨hl, hnd, rfl⟩ := i
  have ek : (ks.zip ws).map (·.1) = ks := List.map_fst_zip (by omega)
  have em : (ks.zip ws).map (fun z => PyData.tuple (z.1.map keyPd)) = (ks.map ktT).map T.pd := by
    have e1 : (ks.zip ws).map (fun z => PyData.tuple (z.1.map keyPd)) = ((ks.zip ws).map (·.1)).map fun k => PyData.tuple (k.map keyPd) := by rw [List.map_map]; rfl
    rw [e1, ek, List.map_map]
    exact List.map_congr_left fun k _ => (pd_kt k).symm
  refine ⟨a, _, rfl, rd, ?_, by rw [em]; exact ok.kind, fun zs p' hp hso hz hn => ?_⟩
  · rw [em]
    intro d hd d' hd'
    obtain ⟨t, ht, rfl⟩ := List.mem_map.mp hd
    obtain ⟨u, hu', rfl⟩ := List.mem_map.mp hd'
    exact ok.alike t ht u hu'
  · rw [ek] at hp
    have shs : ∀ zs : List (Addr × List Key), (∀ z ∈ zs, H1 z.1 = some (.tup (z.2.map kV))) → Shrs X.K H1 (fun _ => True) ((zs.map (·.2)).map ktT) (zs.map fun z => V.ref z.1) := by
      intro zs
      induction zs with
      | nil => exact fun _ => .nil
      | cons z zs ih => exact fun h => Shrs.cons (ktT_own (h z List.mem_cons_self)) (ih fun y hy => h y (List.mem_cons_of_mem _ hy))
    have perm : ((zs.map (·.2)).map ktT).Perm (ks.map ktT) := hp.map _
    have fl : T.flats ((zs.map (·.2)).map ktT) = true := flats_iff'.mpr fun t ht => flats_iff'.mp ok.flat t (perm.mem_iff.mp ht)
    have hsm : Same H1 (upd H1 p' (.lst (zs.map fun z => V.ref z.1))) := Same.new hn nt_lst
    have sh2 := Owns.keep (S' := fun _ => True) (fun _ z => z) (shs zs hz) (.same hsm)
    obtain ⟨S, rs, s⟩ := s1.pop
    refine hq 1 _ ρ' _ _ _ (hR _ perm ?_) ⟨S, rs, s.pushNew (kd := .lst) hn rfl ((Owns.flat0 sh2 fl).2 0 S)⟩
    refine List.pairwise_map.mpr (List.pairwise_map.mpr (hso.imp fun {x y} h => ?_))
    show PySem.W.dataLt _ _ = false
    rw [pd_kt, pd_kt]
    exact h
end
end TL
set_option Elab.async false
set_option linter.all false
set_option maxRecDepth 100000
/-! TL41: a and b, a or b as values whose parts change slots; targets of 4 to 6 names; sums of calls -/
namespace TL
open PySem PySem.Spec PyProof.Rows L2
section
variable {X : Cx} {a b : Expr} {rest : List Expr} {pos : Pos} {op : BoolOp} {va vb : List Ent → (Nat → T → List Ent → Prop) → Prop}
theorem tv_one (ha : TVE X a va) : TVE X (.BoolOp op [a] pos) va := by
  obtain ⟨ta, pa, ka⟩ := ha.ok
  exact ⟨⟨_, pe_one pa, ka⟩⟩
def vAndB (va vb : List Ent → (Nat → T → List Ent → Prop) → Prop) : List Ent → (Nat → T → List Ent → Prop) → Prop := fun ρ R => va ρ fun _ t ρ1 => asB t fun b => if b = true then vb ρ1 R else R 0 (.bl false) ρ1
def vOrB (va vb : List Ent → (Nat → T → List Ent → Prop) → Prop) : List Ent → (Nat → T → List Ent → Prop) → Prop := fun ρ R => va ρ fun _ t ρ1 => asB t fun b => if b = true then R 0 (.bl true) ρ1 else vb ρ1 R
theorem tv_andB (ha : TVE X a va) (hb : TVE X (.BoolOp .And (b :: rest) pos) vb) : TVE X (.BoolOp .And (a :: b :: rest) pos) (vAndB va vb) := by
  obtain ⟨ta, pa, ka⟩ := ha.ok
  obtain ⟨tb, pb, kb⟩ := hb.ok
  refine ⟨⟨_, pe_and pa pb, fun f τ ρ σ H Q R hs hw hq => ?_⟩⟩
  refine ka f τ ρ σ H _ _ hs hw fun n t ρ1 v F H1 h1 s1 => ?_
  obtain ⟨k, e, h⟩ := asB_ok s1.last2 h1
  refine ⟨k, e, ?_⟩
  cases k with
  | true => exact kb f τ ρ1 σ H1 _ _ s1.pop h hq
  | false =>
    obtain ⟨S, rs, s⟩ := s1.pop
    exact hq 0 (.bl false) ρ1 _ [] H1 h ⟨S, rs, s.pushS (.bl _)⟩
theorem tv_orB (ha : TVE X a va) (hb : TVE X (.BoolOp .Or (b :: rest) pos) vb) : TVE X (.BoolOp .Or (a :: b :: rest) pos) (vOrB va vb) := by
  obtain ⟨ta, pa, ka⟩ := ha.ok
  obtain ⟨tb, pb, kb⟩ := hb.ok
  refine ⟨⟨_, pe_or pa pb, fun f τ ρ σ H Q R hs hw hq => ?_⟩⟩
  refine ka f τ ρ σ H _ _ hs hw fun n t ρ1 v F H1 h1 s1 => ?_
  obtain ⟨k, e, h⟩ := asB_ok s1.last2 h1
  refine ⟨k, e, ?_⟩
  cases k with
  | false => exact kb f τ ρ1 σ H1 _ _ s1.pop h hq
  | true =>
    obtain ⟨S, rs, s⟩ := s1.pop
    exact hq 0 (.bl true) ρ1 _ [] H1 h ⟨S, rs, s.pushS (.bl _)⟩
/-- targets of 4, 5, 6 names -/
theorem hl_nil : ∀ ts ρ R, hNil ts ρ R → ts.length = 0 := by
  intro ts ρ R h
  match ts, h with
  | [], _ => rfl
  | _ :: _, h => exact h.elim
theorem hl_cons {i n : Nat} {g : List T → List Ent → (List Ent → Prop) → Prop} (hg : ∀ ts ρ R, g ts ρ R → ts.length = n) : ∀ ts ρ R, hCons (hName i) g ts ρ R → ts.length = n + 1 := by
  intro ts ρ R h
  match ts, h with
  | [], h => exact h.elim
  | _ :: ts, h => rw [List.length_cons, hg ts _ _ h.2]
theorem h4_len {i j k l : Nat} : ∀ ts ρ R, hCons (hName i) (hCons (hName j) (hCons (hName k) (hCons (hName l) hNil))) ts ρ R → ts.length = 4 := hl_cons (hl_cons (hl_cons (hl_cons hl_nil)))
theorem h5_len {i j k l m : Nat} : ∀ ts ρ R, hCons (hName i) (hCons (hName j) (hCons (hName k) (hCons (hName l) (hCons (hName m) hNil)))) ts ρ R → ts.length = 5 := hl_cons (hl_cons (hl_cons (hl_cons (hl_cons hl_nil))))
theorem h6_len {i j k l m o : Nat} : ∀ ts ρ R, hCons (hName i) (hCons (hName j) (hCons (hName k) (hCons (hName l) (hCons (hName m) (hCons (hName o) hNil))))) ts ρ R → ts.length = 6 := hl_cons (hl_cons (hl_cons (hl_cons (hl_cons (hl_cons hl_nil)))))
end
end TL
set_option Elab.async false
set_option linter.all false
set_option maxRecDepth 100000
/-! TL42: an expression that changes nothing reads owned slots as shared ones -/
namespace TL
open PySem PySem.Spec PyProof.Rows L2
def frzE : Ent → Ent
  | .ow _ t => .ow 0 t
  | .io _ t => .ow 0 t
  | .ro t => .ow 0 t
  | .al _ _ _ => .no
  | .no => .no
def frz (ρ : List Ent) : List Ent := ρ.map frzE
def vPure (v : List Ent → (Nat → T → List Ent → Prop) → Prop) : List Ent → (Nat → T → List Ent → Prop) → Prop := fun ρ R => v (frz ρ) fun n t _ => t.flatAt n = true ∧ R n t ρ
theorem frz_cons {e : Ent} {ρ : List Ent} : frz (e :: ρ) = frzE e :: frz ρ := rfl
theorem frz_nil : frz [] = [] := rfl
theorem frz_sta {K : PySem.W.Frag} {f : Fm} {S : Addr → Prop} {H : Hp} {τ rs : List Root} {ρ : List Ent} {σ : St} (s : StaW K f τ ρ σ H S rs) : StaW K ⟨fun a => H a ≠ none, H, [], σ⟩ [] (frz ρ) σ H (fun a => H a ≠ none) (rs.map fun r => ⟨frzE r.e, r.o, []⟩) := by
  have get : ∀ {k : Nat} {r : Root}, (rs.map fun r => (⟨frzE r.e, r.o, []⟩ : Root))[k]? = some r → ∃ r0, rs[k]? = some r0 ∧ r = ⟨frzE r0.e, r0.o, []⟩ := fun {k r} e => by
    rw [List.getElem?_map] at e
    cases q : rs[k]? with
    | none => rw [q] at e; cases e
    | some r0 => rw [q] at e; cases e; exact ⟨r0, rfl, rfl⟩
  refine ⟨?_, ?_, ?_, fun k j i t h => ?_, fun i n t h => ?_, fun r hr => nomatch hr⟩
  · rw [List.map_map, ← s.e]
    unfold frz
    rw [List.map_map]; rfl
  · rw [List.map_map, ← s.o]; rfl
  · rw [List.append_nil]
    refine ⟨fun k r e => ?_, fun k l r q e1 e2 ne a ha => ?_, fun a h => h, fun a o h _ => .inl h, fun a h => .inl h, s.good.tb⟩
    · obtain ⟨r0, h0, rfl⟩ := get e
      have h1 : (rs ++ τ)[k]? = some r0 := by rw [List.getElem?_append_left (List.getElem?_eq_some_iff.mp h0).1]; exact h0
      have sl := (s.good.slot k r0 h1).1
      have th : ∀ a ∈ r0.F, H a ≠ none := fun a ha z => by
        obtain ⟨o, e⟩ := s.good.own_there h1 ha
        rw [z] at e; cases e
      refine ⟨?_, List.nodup_nil, fun a z => nomatch z⟩
      show SlotR K H _ (frzE r0.e) r0.o []
      cases q : r0.e with
      | no => rfl
      | ow n t =>
        rw [q] at sl
        obtain ⟨v, e, own⟩ := sl
        exact ⟨v, e, own.shr (fun a z => s.good.trk a z) th⟩
      | io n t =>
        rw [q] at sl
        obtain ⟨v, e, own⟩ := sl
        exact ⟨v, e, own.shr (fun a z => s.good.trk a z) th⟩
      | ro t =>
        rw [q] at sl
        obtain ⟨_, v, e, own⟩ := sl
        exact ⟨v, e, own.trk.mono fun a z => z.2⟩
      | al j i t => rfl
    · obtain ⟨_, _, rfl⟩ := get e1
      exact nomatch ha
  · unfold frz at h
    rw [List.getElem?_map] at h
    cases q : ρ[k]? with
    | none => rw [q] at h; cases h
    | some e => rw [q] at h; cases e <;> cases h
  · rfl
theorem pure_core {K : PySem.W.Frag} {tt : TE} {v : List Ent → (Nat → T → List Ent → Prop) → Prop}
    (k : ∀ (f : Fm) (τ : List Root) (ρ : List Ent) (σ : St) (H : Hp) (Q : VK) (R : Nat → T → List Ent → Prop), Sta K f τ ρ σ H → v ρ R → (∀ n t ρ' v F H', R n t ρ' → Sta K f (τ ++ [tmp n t v F]) ρ' σ H' → Q v H') → tt σ H Q)
    {f : Fm} {τ : List Root} {ρ : List Ent} {σ : St} {H : Hp} {Q : VK} {R : Nat → T → List Ent → Prop} (hs : Sta K f τ ρ σ H) (hw : vPure v ρ R) (hq : ∀ n t ρ' v F H', R n t ρ' → Sta K f (τ ++ [tmp n t v F]) ρ' σ H' → Q v H') : tt σ H Q := by
  obtain ⟨S, rs, s⟩ := hs
  refine k _ [] (frz ρ) σ H Q _ ⟨_, _, frz_sta s⟩ hw fun n t ρ' v F H' hR s1 => ?_
  obtain ⟨S2, rs2, s2⟩ := s1
  have same : Same H H' := Same.of (fun a o e => s2.good.fr a o e (fun z => nomatch z)) fun _ => s2.good.tb
  have g : (rs2 ++ ([] ++ [tmp n t v F]))[rs2.length]? = some (tmp n t v F) := by rw [List.nil_append]; exact getElem?_last
  obtain ⟨⟨v', e, own⟩, nd, q⟩ := s2.good.slot _ _ g
  have e := Option.some.inj e
  subst e
  refine hq n t ρ v F H' hR.2 ⟨S, rs, s.pushF same (own.anyS hR.1 S) nd fun a ha => ?_⟩
  rcases (q a ha).2 with z | z
  · exact z
  · cases z
section
variable {X : Cx} {W : WX} {e elt tg iter : Expr} {ifs : List Expr} {scope : Scope} {own : List (Str × Nat)} {pos : Pos} {js : List Nat} {k : Nat} {v : List Ent → (Nat → T → List Ent → Prop) → Prop} {wi : List Ent → (List T → List Ent → Prop) → Prop} {hT : T → List Ent → (List Ent → Prop) → Prop} {vt : List Ent → (Bool → List Ent → Prop) → Prop} {ve : List Ent → (Nat → T → List Ent → Prop) → Prop}
theorem tv_pure (h : TVE X e v) : TVE X e (vPure v) := by
  obtain ⟨ta, pa, ka⟩ := h.ok
  exact ⟨⟨ta, pa, fun f τ ρ σ H Q R hs hw hq => pure_core ka hs hw hq⟩⟩
theorem ts_setLcP (i : Nat) {y : Str} {py spos : Pos} (k : Nat) (js : List Nat) (hc : X.calm = true) (hN : X.N.Nodup) (hy : X.N[i]? = some y) (hyl : X.env.scope.names.lookup y = some .local)
    (hsw : swapsWith (.ListComp elt [⟨tg, iter, ifs, 0⟩] scope pos) (some (.Name y py)) spos.line X.env = pure true) (hi : TIt X tg iter wi) (ok : BlkOk X.N X.env.scope scope own)
    (hg : ∀ (s : Shared) (H : Hp) (C : Addr) (cl : List (Str × Addr)) (fp : List Addr), TTg (X.blk s H scope (compEnvC scope cl C X.env) fp) tg js hT) (ht : ∀ (s : Shared) (H : Hp) (C : Addr) (cl : List (Str × Addr)) (fp : List Addr), TVTs (X.blk s H scope (compEnvC scope cl C X.env) fp) ifs vt)
    (he : ∀ (s : Shared) (H : Hp) (C : Addr) (cl : List (Str × Addr)) (fp : List Addr), TVE (X.blk s H scope (compEnvC scope cl C X.env) fp) elt ve) (hj : ∀ j ∈ js, j ∈ own.map (·.2) := by decide) (hs : ∀ x, foldedSetIterable iter X.env x = pure x := by intro _; rfl) :
    TS1 X W (.Assign [.Name y py] (.ListComp elt [⟨tg, iter, ifs, 0⟩] scope pos) spos) (uSet i (vPure (vLc k wi hT vt ve (own.map (·.2))))) := by
  obtain ⟨ti, pi, ki⟩ := hi.ok
  refine ⟨⟨_, ps_setLc (g := canG X.K js hT) (tt := canT X.K vt) (te := canE X.K ve) hc hN hy hyl hsw pi ok (fun s H C cl fp => (hg s H C cl fp).can) (fun s H C cl fp => (ht s H C cl fp).can) (fun s H C cl fp => (he s H C cl fp).can) hs, fun f τ ρ σ H De D h1 hl hw => ?_⟩⟩
  exact pure_core (v := vLc k wi hT vt ve (own.map fun x : Str × Nat => x.2)) (R := fun n t ρ' => i < ρ'.length ∧ De.nx (setE ρ' i (.ow n t))) (fun f τ ρ σ H Q R h1 hw hq => lc_read ki hj h1 hw hq) h1 hw fun n t ρ' v F H' h s => hl.nx _ _ H' h.2 (s.setV h.1)
end
end TL
set_option Elab.async false
set_option linter.all false
set_option maxRecDepth 100000
/-! TL43: x[::-1] as a new list -/
namespace TL
open PySem PySem.Spec PyProof.Rows L2
section
variable {X : Cx} {e : Expr} {pos p1 p2 p3 : Pos} {w : List Ent → (T → Prop) → Prop}
def vRev (w : List Ent → (T → Prop) → Prop) : List Ent → (Nat → T → List Ent → Prop) → Prop := fun ρ R => w ρ fun t => match t with | .nd .lst ts => T.flats ts.reverse = true ∧ R 1 (.lst ts.reverse) ρ | _ => False
theorem tv_rev {k : Nat} (ha : TPE X e w) : TVE X (.Subscript e (.Slice none none (some (.UnaryOp .USub (.Constant (.int 1) k p1) p2)) p3) pos) (vRev w) := by
  obtain ⟨ta, pa, ka⟩ := ha.ok
  have base := tv_new (u := fun ρ R => w ρ fun t => match t with | .nd .lst ts => R ts.reverse | _ => False) (pe_revL (pos := pos) (k := k) (p1 := p1) (p2 := p2) (p3 := p3) pa) fun S ρ σ H Q R hr hw hq => by
    refine ka S ρ σ H _ _ hr hw fun t v H1 h1 s1 x1 => ?_
    cases t using T.cs <;> first | exact h1.elim | skip
    obtain ⟨p0, vs, rfl, q, r⟩ := shr_lst x1
    exact ⟨p0, vs, rfl, q.sq, fun p hp => hq _ _ H1 h1 s1 (shrs_rev r) p hp⟩
  exact base
end
end TL
set_option Elab.async false
set_option linter.all false
set_option maxRecDepth 100000
namespace K95
open PySem PySem.Spec PyProof.Rows L2 TL
def topS (i : Nat) : Stmt := PySem.Challenge.pw_pensionhall_k95_ring_tickets.main.body.getD i (.Pass ⟨0, 0, 0, 0⟩)
abbrev s_hearers : Stmt := topS 15
theorem sc_hearers : FnScope ["lists", "found", "house", "tickets", "ticket", "heard"] ["lists"] (defScope s_hearers) := ⟨rfl, rfl, rfl, by decide +kernel, rfl, by decide +kernel, by decide +kernel⟩
abbrev s_matched : Stmt := topS 16
theorem sc_matched : FnScope ["lists", "found", "tickets", "ticket"] ["lists"] (defScope s_matched) := ⟨rfl, rfl, rfl, by decide +kernel, rfl, by decide +kernel, by decide +kernel⟩
abbrev s_half_known : Stmt := topS 17
theorem sc_half_known : FnScope ["lists", "found", "pairs", "ticket", "house"] ["lists"] (defScope s_half_known) := ⟨rfl, rfl, rfl, by decide +kernel, rfl, by decide +kernel, by decide +kernel⟩
abbrev s_debts_of : Stmt := topS 18
theorem sc_debts_of : FnScope ["count", "tickets", "matrix", "debts", "debtor", "creditor", "coins", "day", "house"] ["count", "tickets"] (defScope s_debts_of) := ⟨rfl, rfl, rfl, by decide +kernel, rfl, by decide +kernel, by decide +kernel⟩
abbrev s_positions : Stmt := topS 19
theorem sc_positions : FnScope ["matrix", "found", "debtor", "debts", "creditor", "coins"] ["matrix"] (defScope s_positions) := ⟨rfl, rfl, rfl, by decide +kernel, rfl, by decide +kernel, by decide +kernel⟩
abbrev s_net_tickets : Stmt := topS 20
theorem sc_net_tickets : FnScope ["matrix", "rests", "debtors", "creditors", "found", "debtor", "creditor", "coins", "house", "rest"] ["matrix"] (defScope s_net_tickets) := ⟨rfl, rfl, rfl, by decide +kernel, rfl, by decide +kernel, by decide +kernel⟩
abbrev s__law_pool : Stmt := topS 22
theorem sc__law_pool : FnScope ["script", "at", "salt", "cell", "rest"] ["script", "at", "salt"] (defScope s__law_pool) := ⟨rfl, rfl, rfl, by decide +kernel, rfl, by decide +kernel, by decide +kernel⟩
abbrev s__law_mix : Stmt := topS 23
theorem sc__law_mix : FnScope ["seed", "turn", "one", "two", "three"] ["seed", "turn"] (defScope s__law_mix) := ⟨rfl, rfl, rfl, by decide +kernel, rfl, by decide +kernel, by decide +kernel⟩
abbrev s__law_draw : Stmt := topS 24
theorem sc__law_draw : FnScope ["pool", "many", "value"] ["pool", "many"] (defScope s__law_draw) := ⟨rfl, rfl, rfl, by decide +kernel, rfl, by decide +kernel, by decide +kernel⟩
abbrev s__law_pick : Stmt := topS 25
theorem sc__law_pick : FnScope ["pool", "row"] ["pool", "row"] (defScope s__law_pick) := ⟨rfl, rfl, rfl, by decide +kernel, rfl, by decide +kernel, by decide +kernel⟩
abbrev s__law_whole : Stmt := topS 26
theorem sc__law_whole : FnScope ["thing"] ["thing"] (defScope s__law_whole) := ⟨rfl, rfl, rfl, by decide +kernel, rfl, by decide +kernel, by decide +kernel⟩
abbrev s__law_same : Stmt := topS 27
theorem sc__law_same : FnScope ["told", "due", "k", "keys", "key"] ["told", "due"] (defScope s__law_same) := ⟨rfl, rfl, rfl, by decide +kernel, rfl, by decide +kernel, by decide +kernel⟩
abbrev s__law_error : Stmt := topS 28
theorem sc__law_error : FnScope ["e", "told"] ["e"] (defScope s__law_error) := ⟨rfl, rfl, rfl, by decide +kernel, rfl, by decide +kernel, by decide +kernel⟩
abbrev s__law_ticket : Stmt := topS 29
theorem sc__law_ticket : FnScope ["pool", "size", "menu", "debtor", "creditor", "coins"] ["pool", "size", "menu"] (defScope s__law_ticket) := ⟨rfl, rfl, rfl, by decide +kernel, rfl, by decide +kernel, by decide +kernel⟩
abbrev s__law_heard : Stmt := topS 30
theorem sc__law_heard : FnScope ["pool", "size", "lists", "menu", "k", "turn", "ticket"] ["pool", "size"] (defScope s__law_heard) := ⟨rfl, rfl, rfl, by decide +kernel, rfl, by decide +kernel, by decide +kernel⟩
abbrev s__law_known : Stmt := topS 31
theorem sc__law_known : FnScope ["lists", "both", "half", "house", "ticket", "other"] ["lists"] (defScope s__law_known) := ⟨rfl, rfl, rfl, by decide +kernel, rfl, by decide +kernel, by decide +kernel⟩
abbrev s__law_matrix : Stmt := topS 32
theorem sc__law_matrix : FnScope ["size", "tickets", "matrix", "ticket", "row", "k"] ["size", "tickets"] (defScope s__law_matrix) := ⟨rfl, rfl, rfl, by decide +kernel, rfl, by decide +kernel, by decide +kernel⟩
abbrev s__law_too_much : Stmt := topS 33
theorem sc__law_too_much : FnScope ["matrix", "row", "coins"] ["matrix"] (defScope s__law_too_much) := ⟨rfl, rfl, rfl, by decide +kernel, rfl, by decide +kernel, by decide +kernel⟩
abbrev s__law_debts : Stmt := topS 34
theorem sc__law_debts : FnScope ["size", "tickets", "e"] ["size", "tickets"] (defScope s__law_debts) := ⟨rfl, rfl, rfl, by decide +kernel, rfl, by decide +kernel, by decide +kernel⟩
abbrev s__law_positions : Stmt := topS 35
theorem sc__law_positions : FnScope ["matrix", "size", "k", "row"] ["matrix"] (defScope s__law_positions) := ⟨rfl, rfl, rfl, by decide +kernel, rfl, by decide +kernel, by decide +kernel⟩
abbrev s__law_netted : Stmt := topS 36
theorem sc__law_netted : FnScope ["rests", "told", "left", "turn", "debtors", "creditors", "coins", "k"] ["rests"] (defScope s__law_netted) := ⟨rfl, rfl, rfl, by decide +kernel, rfl, by decide +kernel, by decide +kernel⟩
abbrev s__law_settles : Stmt := topS 37
theorem sc__law_settles : FnScope ["matrix", "told", "rests", "size", "gained", "row", "rest", "x"] ["matrix", "told"] (defScope s__law_settles) := ⟨rfl, rfl, rfl, by decide +kernel, rfl, by decide +kernel, by decide +kernel⟩
abbrev s__law_edge_tickets : Stmt := topS 38
theorem sc__law_edge_tickets : FnScope ["pool", "size", "tickets", "debtor", "creditor", "rest", "more", "k", "some", "at", "row"] ["pool", "size", "tickets"] (defScope s__law_edge_tickets) := ⟨rfl, rfl, rfl, by decide +kernel, rfl, by decide +kernel, by decide +kernel⟩
abbrev s__law_drawn_matrix : Stmt := topS 39
theorem sc__law_drawn_matrix : FnScope ["pool", "size", "matrix", "i", "j", "k", "row"] ["pool", "size"] (defScope s__law_drawn_matrix) := ⟨rfl, rfl, rfl, by decide +kernel, rfl, by decide +kernel, by decide +kernel⟩
abbrev s_law : Stmt := topS 40
theorem sc_law : FnScope ["script", "pool", "size", "lists", "known", "handed", "told", "half", "more", "tickets", "k", "mine", "due", "matrix", "rows", "row"] ["script"] (defScope s_law) := ⟨rfl, rfl, rfl, by decide +kernel, rfl, by decide +kernel, by decide +kernel⟩
def inS (s : Stmt) (j : Nat) : Stmt := match s with
  | .ClassDef _ _ _ b _ _ _ _ _ _ _ => b.getD j (.Pass ⟨0, 0, 0, 0⟩)
  | _ => .Pass ⟨0, 0, 0, 0⟩
abbrev i_TooMuch : Stmt := inS (topS 10) 0
theorem si_TooMuch : FnScope ["self", "coins"] ["self", "coins"] (defScope i_TooMuch) := ⟨rfl, rfl, rfl, by decide +kernel, rfl, by decide +kernel, by decide +kernel⟩
structure Gs (K : PySem.W.Frag) (mg : Str → Option Value) where
  g_hearers : GF K mg "hearers" s_hearers ["lists"]
  g_matched : GF K mg "matched" s_matched ["lists"]
  g_half_known : GF K mg "half_known" s_half_known ["lists"]
  g_debts_of : GF K mg "debts_of" s_debts_of ["count", "tickets"]
  g_positions : GF K mg "positions" s_positions ["matrix"]
  g_net_tickets : GF K mg "net_tickets" s_net_tickets ["matrix"]
  g__law_pool : GF K mg "_law_pool" s__law_pool ["script", "at", "salt"]
  g__law_mix : GF K mg "_law_mix" s__law_mix ["seed", "turn"]
  g__law_draw : GF K mg "_law_draw" s__law_draw ["pool", "many"]
  g__law_pick : GF K mg "_law_pick" s__law_pick ["pool", "row"]
  g__law_whole : GF K mg "_law_whole" s__law_whole ["thing"]
  g__law_same : GF K mg "_law_same" s__law_same ["told", "due"]
  g__law_error : GF K mg "_law_error" s__law_error ["e"]
  g__law_ticket : GF K mg "_law_ticket" s__law_ticket ["pool", "size", "menu"]
  g__law_heard : GF K mg "_law_heard" s__law_heard ["pool", "size"]
  g__law_known : GF K mg "_law_known" s__law_known ["lists"]
  g__law_matrix : GF K mg "_law_matrix" s__law_matrix ["size", "tickets"]
  g__law_too_much : GF K mg "_law_too_much" s__law_too_much ["matrix"]
  g__law_debts : GF K mg "_law_debts" s__law_debts ["size", "tickets"]
  g__law_positions : GF K mg "_law_positions" s__law_positions ["matrix"]
  g__law_netted : GF K mg "_law_netted" s__law_netted ["rests"]
  g__law_settles : GF K mg "_law_settles" s__law_settles ["matrix", "told"]
  g__law_edge_tickets : GF K mg "_law_edge_tickets" s__law_edge_tickets ["pool", "size", "tickets"]
  g__law_drawn_matrix : GF K mg "_law_drawn_matrix" s__law_drawn_matrix ["pool", "size"]
  g_law : GF K mg "law" s_law ["script"]
  z_len : mg "len" = none
  z_abs : mg "abs" = none
  z_int : mg "int" = none
  z_sum : mg "sum" = none
  z_max : mg "max" = none
  z_min : mg "min" = none
  z_range : mg "range" = none
  z_enumerate : mg "enumerate" = none
  z_zip : mg "zip" = none
  z_list : mg "list" = none
  z_isinstance : mg "isinstance" = none
  z_bool : mg "bool" = none
  z_str : mg "str" = none
  z_dict : mg "dict" = none
  z_tuple : mg "tuple" = none
  z_sorted : mg "sorted" = none
  z_ValueError : mg "ValueError" = none
  c_debt : ∃ t, mg "GREATEST_DEBT" = some (.int 40 t)
  a_PensionError : Addr
  ga_PensionError : mg "PensionError" = some (.ref a_PensionError)
  a_BadNumber : Addr
  ga_BadNumber : mg "BadNumber" = some (.ref a_BadNumber)
  a_BadDay : Addr
  ga_BadDay : mg "BadDay" = some (.ref a_BadDay)
  a_NoName : Addr
  ga_NoName : mg "NoName" = some (.ref a_NoName)
  a_Clash : Addr
  ga_Clash : mg "Clash" = some (.ref a_Clash)
  a_Full : Addr
  ga_Full : mg "Full" = some (.ref a_Full)
  a_Refused : Addr
  ga_Refused : mg "Refused" = some (.ref a_Refused)
  a_TooFar : Addr
  ga_TooFar : mg "TooFar" = some (.ref a_TooFar)
  a_TooLarge : Addr
  ga_TooLarge : mg "TooLarge" = some (.ref a_TooLarge)
  a_TooMuch : Addr
  ga_TooMuch : mg "TooMuch" = some (.ref a_TooMuch)
  a_BadLine : Addr
  ga_BadLine : mg "BadLine" = some (.ref a_BadLine)
  a_NoUndo : Addr
  ga_NoUndo : mg "NoUndo" = some (.ref a_NoUndo)
  x_TooMuch : XC1 K mg "TooMuch" "TooMuch.__init__" "coins" i_TooMuch
  e_TooMuch : x_TooMuch.C = a_TooMuch
  ex_TooMuch : ExcC K x_TooMuch.C
  xf_TooMuch : XfC K x_TooMuch.C
  cp_TooMuch : PySem.W.exmOne K (.ref x_TooMuch.C) (.ref a_PensionError) = some true
  k_TooMuch_BadNumber : PySem.W.kitOne K (.ref x_TooMuch.C) (.ref a_BadNumber) = some false
  k_TooMuch_BadDay : PySem.W.kitOne K (.ref x_TooMuch.C) (.ref a_BadDay) = some false
  k_TooMuch_NoName : PySem.W.kitOne K (.ref x_TooMuch.C) (.ref a_NoName) = some false
  k_TooMuch_Clash : PySem.W.kitOne K (.ref x_TooMuch.C) (.ref a_Clash) = some false
  k_TooMuch_Full : PySem.W.kitOne K (.ref x_TooMuch.C) (.ref a_Full) = some false
  k_TooMuch_Refused : PySem.W.kitOne K (.ref x_TooMuch.C) (.ref a_Refused) = some false
  k_TooMuch_TooFar : PySem.W.kitOne K (.ref x_TooMuch.C) (.ref a_TooFar) = some false
  k_TooMuch_TooLarge : PySem.W.kitOne K (.ref x_TooMuch.C) (.ref a_TooLarge) = some false
  k_TooMuch_TooMuch : PySem.W.kitOne K (.ref x_TooMuch.C) (.ref a_TooMuch) = some true
  k_TooMuch_BadLine : PySem.W.kitOne K (.ref x_TooMuch.C) (.ref a_BadLine) = some false
  k_TooMuch_NoUndo : PySem.W.kitOne K (.ref x_TooMuch.C) (.ref a_NoUndo) = some false
  k_TooMuch_VE : PySem.W.kitOne K (.ref x_TooMuch.C) (.type "ValueError") = some true
section
variable {P : Program} {w : World} {K : PySem.W.Frag} {mg : Str → Option Value} {base : Heap}
theorem ok_iTooMuch {k : Nat} (G : Gs K mg) : FnOk P w K mg base CX0 (k + 1) G.x_TooMuch.fI G.x_TooMuch.d ["self", "coins"] (spI1 K "coins") := by
  refine G.x_TooMuch.F.ok si_TooMuch (fun vs H Q E h => ?_) (fun cdv A outer s H vs Q E hr h => ⟨_, pss_one (ps_ost (pv 0) (pv 1)), ?_⟩)
  · obtain ⟨a, C, y, rfl, _⟩ := h; rfl
  · obtain ⟨a, C, y, rfl, h1, h2, h3, h4⟩ := h
    exact ⟨_, rfl, _, rfl, a, C, rfl, h1, h2, .inl ⟨h3, fun dx n ne => h4 dx n ne⟩⟩
end
end K95
set_option Elab.async false
set_option linter.all false
set_option maxRecDepth 100000
namespace K95
open PySem PySem.Spec PyProof.Rows L2 L2H TL
local macro_rules | `(tactic| walk_at "RD") => `(tactic| simp -dsimp only [↓uSeq, ↓uNext, ↓uFor, ↓uSt, ↓uStV, ↓uAu, ↓uAp, ↓uApMv, ↓uAuN, ↓uAlias, ↓uDem, ↓uBrk, ↓uCnt, ↓uNev, ↓uRet, ↓uRetN, ↓uExp, ↓uExpP, ↓uRaise1, ↓wCallX, ↓uExpX, ↓uRetX, ↓uSetX, ↓uTryE, ↓uForD, ↓uAsgT, ↓wSlT, ↓gCatT, ↓uForV, ↓uForI, ↓uDp, ↓uSt2, ↓uAu2, ↓uAp2, ↓uDemK, ↓wDG1, ↓wDG2, ↓wDisp, ↓vKD, ↓vKG, ↓vKL, ↓vDN, ↓vLend, ↓gDG, ↓gDI, ↓gGet, ↓gLenA, ↓gStrI, ↓gTupl, ↓gDict, ↓iZp3, ↓TL.iRngV, kidT, ↓tKey_int, ↓tKey_str, ↓tKey_kT, ↓tKeyL, ↓tKeys, ↓ownD, kidsOf, ndSet, dput, dlook, noX, rdE, demK, ↓gLtT, ↓iRngD, ↓vSortP, ↓vCat, ↓vCatV, ↓gCat, ↓uSet, ↓uSetR, ↓uIf, ↓wVar, ↓wVarV, ↓wC, ↓w1, ↓w2, ↓wT, asB, ↓wChain, ↓wNil, ↓wCons, ↓wAnd, ↓wOr, ↓wNot, ↓wAndV, ↓wOrV, ↓wNotV, ↓wIf, ↓wCallP, ↓wCallV, ↓wCa, ↓wTup, ↓wLst, ↓oNon, ↓oSom, ↓wSlice, ↓wRev, ↓vP, ↓vSh, ↓vFit, ↓vaNil, ↓vaCons, ↓vLst, ↓vTup, ↓vTup0, ↓vList, ↓vRep, ↓vSlice, ↓cSl, ↓vCallN, ↓v1, ↓vCa, ↓vIx, ↓tP, ↓vAnd, ↓vOr, ↓vNot, ↓vIf, ↓vT, ↓v2, ↓vLc, ↓gI2, ↓gI2c, ↓gLen, ↓gII, ↓gI, ↓gInt1, ↓gRep, ↓gKids, ↓gIn, ↓iLst, ↓TL.iTup, ↓TL.iRng1, ↓TL.iRng2, ↓iEn, ↓iZp, ↓hName, ↓hCons, ↓hNil, ↓hTup, ↓wSl, ↓wIsi, ↓wYes, rho0, iniE, entOf, allSh, List.replicate, List.length_cons, List.length_nil, Nat.reduceAdd, Nat.reduceSub, Nat.reduceLT, Nat.reduceLeDiff, List.cons_append, List.nil_append, List.getElem?_cons_zero, List.getElem?_cons_succ, Option.bind_some, Ent.tr, Ent.own, Ent.put, setE, killA, noAl_ow, noAl_io1, noAl_no, noAl_ro, noAl_al', killJ_cons, killJ_nil0, noRo_ow, noRo_io, noRo_no, noRo_al, mem1, notIn, noRA_ow, noRA_io, noRA_no, noRA_al, Plc, demE, List.foldl_cons, List.foldl_nil, List.map_cons, List.map_nil, List.set_cons_zero, List.set_cons_succ, endsOf, ↓outsOf, Option.map_some, plSet, TL.putAt, T.put, true_and, and_true, lst_set, lst_snoc, lm_set, lm_snoc, shOnly, shE_ow0, shE_ow1, shE_io, shE_no, Option.isSome_some, reduceIte, if_true, if_false, Bool.false_eq_true, Nat.reduceEqDiff, ↓vRev, ↓vPure, frz_cons, frz_nil, frzE, ↓gInD, ↓vSortG, ↓vSortDT, ↓vAndB, ↓vOrB])
theorem ifF {c : Prop} [Decidable c] {A B : Prop} (hc : ¬c) (h : B) : if c then A else B := by rw [if_neg hc]; exact h
theorem ifT {c : Prop} [Decidable c] {A B : Prop} (hc : c) (h : A) : if c then A else B := by rw [if_pos hc]; exact h
theorem ifS {c : Prop} [Decidable c] {A B : Prop} (h1 : c → A) (h2 : ¬c → B) : if c then A else B := by by_cases h : c; rw [if_pos h]; exact h1 h; rw [if_neg h]; exact h2 h
theorem fit0 {n : Nat} {t : T} : fit 0 n t := .inl (Nat.zero_le _)
theorem take_snoc {α : Type} {xs : List α} {i : Nat} {x : α} (h : xs[i]? = some x) : xs.take i ++ [x] = xs.take (i + 1) := by rw [List.take_add_one, h]; rfl
theorem li_snoc {xs : List Int} {i : Nat} {x : Int} (h : xs[i]? = some x) : (xs.take i).map T.int ++ [T.int x] = (xs.take (i + 1)).map T.int := by rw [← take_snoc h, List.map_append]; rfl
theorem take_len {α : Type} {xs : List α} : xs.take xs.length = xs := List.take_length
theorem gp0 {a b c : T} {R : T → Prop} : gIx (T.lst [a, b, c]) (.int 0) R = R a := rfl
theorem gp1 {a b c : T} {R : T → Prop} : gIx (T.lst [a, b, c]) (.int 1) R = R b := rfl
theorem gp2 {a b c : T} {R : T → Prop} : gIx (T.lst [a, b, c]) (.int 2) R = R c := rfl
theorem gq0 {a b c : Int} {R : T → Prop} : gIx (Li [a, b, c]) (.int 0) R = R (.int a) := rfl
theorem gq1 {a b c : Int} {R : T → Prop} : gIx (Li [a, b, c]) (.int 1) R = R (.int b) := rfl
theorem gq2 {a b c : Int} {R : T → Prop} : gIx (Li [a, b, c]) (.int 2) R = R (.int c) := rfl
theorem ix30 : ixN 3 0 = some 0 := rfl
theorem ix32 : ixN 3 2 = some 2 := rfl
theorem gIx_scr {ns : List Int} {i : Nat} {x : Int} {R : T → Prop} (h : ns[i]? = some x) (hR : R (.int x)) : gIx (T.scr ns) (.int (i : Nat)) R := by
  show match atI ns (i : Int) with | some x => R (.int x) | none => False
  rw [atI_natT h]; exact hR
theorem gIx_tup {xs : List T} {i : Nat} {x : T} {R : T → Prop} (h : xs[i]? = some x) (hR : R x) : gIx (.tup xs) (.int (i : Nat)) R := by
  show match atI xs (i : Int) with | some x => R x | none => False
  rw [atI_natT h]; exact hR
theorem cm1 {a b : Int} (h1 : -(2 ^ 64) < a) (h2 : a < 2 ^ 64) : CMul a b := .inl ⟨h1, h2⟩
theorem cm2 {a b : Int} (h1 : -(2 ^ 64) < b) (h2 : b < 2 ^ 64) : CMul a b := .inr ⟨h1, h2⟩
section
variable {P : Program} {w : World} {K : PySem.W.Frag} {mg : Str → Option Value} {base : Heap}
def W__law_pool : FnT := fun ts R => ∃ (ns : List Int) (i s : Int), ts = [.scr ns, .int i, .int s] ∧ 0 ≤ i ∧ ∀ a b, R 1 (Li [a, b, 0]) []
theorem ok__law_pool {k : Nat} (G : Gs K mg) : FnOk P w K mg base CX0 (k + 1) G.g__law_pool.f G.g__law_pool.d ["script", "at", "salt"] (spT K (allSh 3) W__law_pool) := by
  refine fnT (k := k + 0) G.g__law_pool.F sc__law_pool rfl (fun X cdv A outer s H E hX hr => ?_)
  subst hX
  refine ⟨_, (ts_cons (ts_set 3 sc__law_pool.nd rfl (.inl rfl) (tv_p tp_int))
      (ts_cons (ts_if (tvt_p (tpt_cmp op_lt opT_bl (tp_var 1) (tp_callB call_len_seq caT_len (by rfl) G.z_len PySem.boot_len (tpa_cons (tp_var 0) tpa_nil)) (nomark _))) (ts_one (ts_set 3 sc__law_pool.nd rfl (.inl rfl) (tv_p (tp_callB call_abs caT_i (by rfl) G.z_abs (by decide +kernel) (tpa_cons (tp_ix (tp_var 0) (tp_var 1) (fun _ _ => rfl)) tpa_nil))))) ts_nil)
      (ts_cons (ts_set 4 sc__law_pool.nd rfl (.inl rfl) (tv_p tp_int))
      (ts_cons (ts_if (tvt_p (tpt_cmp op_ge opT_bl (tp_var 3) (tp_op op_pow opT_intc tp_int tp_int) (nomark _))) (ts_one (ts_set 4 sc__law_pool.nd rfl (.inl rfl) (tv_p (tp_var 3)))) ts_nil)
      (ts_one (ts_ret (tv_lst 0 (tva_cons 0 (tv_p (tp_var 4)) (tva_cons 0 (tv_p (tp_op op_add opT_int (tp_op op_add opT_int (tp_op op_mod opT_intc (tp_callTy call_int1 caT_int1 (by rfl) G.z_int (by decide +kernel) (tpa_cons (tp_var 3) tpa_nil)) tp_int) (tp_op op_mul opT_intc tp_int (tp_var 2))) (tp_op op_mul opT_intc tp_int (tp_var 1)))) (tva_cons 0 (tv_p tp_int) tva_nil))) (by simp) (by decide)))))))), fun ts R hW hlen => ?_⟩

  obtain ⟨ns, i, s, rfl, h0, h⟩ := hW
  walk_at "RD"
  obtain ⟨j, rfl⟩ := Int.eq_ofNat_of_zero_le h0
  refine ⟨rfl, ifS (fun q => ?_) (fun q => ?_)⟩
  · have q : (j : Int) < ns.length := of_decide_eq_true q
    refine gIx_scr (List.getElem?_eq_getElem (by omega : j < ns.length)) ⟨rfl, rfl, ⟨by decide, by decide, by decide⟩, ifS (fun q2 => ?_) (fun q2 => ?_)⟩
    · exact ⟨rfl, rfl, fit0, by decide, cm1 (by decide) (by decide), cm1 (by decide) (by decide), rfl, fit0, rfl, fit0, h _ _⟩
    · exact ⟨rfl, fit0, by decide, cm1 (by decide) (by decide), cm1 (by decide) (by decide), rfl, fit0, rfl, fit0, h _ _⟩
  · refine ⟨rfl, ⟨by decide, by decide, by decide⟩, ifS (fun q2 => ?_) (fun q2 => ?_)⟩
    · exact ⟨rfl, rfl, fit0, by decide, cm1 (by decide) (by decide), cm1 (by decide) (by decide), rfl, fit0, rfl, fit0, h _ _⟩
    · exact ⟨rfl, fit0, by decide, cm1 (by decide) (by decide), cm1 (by decide) (by decide), rfl, fit0, rfl, fit0, h _ _⟩
def W__law_mix : FnT := fun ts R => ∃ s t : Int, ts = [.int s, .int t] ∧ ∀ v, R 0 (.int v) []
theorem ok__law_mix {k : Nat} (G : Gs K mg) : FnOk P w K mg base CX0 (k + 1) G.g__law_mix.f G.g__law_mix.d ["seed", "turn"] (spT K (allSh 2) W__law_mix) := by
  refine fnT (k := k + 0) G.g__law_mix.F sc__law_mix rfl (fun X cdv A outer s H E hX hr => ?_)
  subst hX
  refine ⟨_, (ts_cons (ts_set 2 sc__law_mix.nd rfl (.inl rfl) (tv_p (tp_op op_mod opT_intc (tp_callTy call_int1 caT_int1 (by rfl) G.z_int (by decide +kernel) (tpa_cons (tp_op op_add opT_int (tp_op op_add opT_int (tp_op op_mul opT_intc (tp_var 0) tp_int) (tp_op op_mul opT_intc (tp_var 1) tp_int)) tp_int) tpa_nil)) tp_int)))
      (ts_cons (ts_set 3 sc__law_mix.nd rfl (.inl rfl) (tv_p (tp_op op_mod opT_intc (tp_callTy call_int1 caT_int1 (by rfl) G.z_int (by decide +kernel) (tpa_cons (tp_op op_add opT_int (tp_op op_add opT_int (tp_op op_mul opT_intc (tp_var 2) (tp_var 2)) (tp_op op_mul opT_intc (tp_var 1) tp_int)) tp_int) tpa_nil)) tp_int)))
      (ts_cons (ts_set 4 sc__law_mix.nd rfl (.inl rfl) (tv_p (tp_op op_mod opT_intc (tp_callTy call_int1 caT_int1 (by rfl) G.z_int (by decide +kernel) (tpa_cons (tp_op op_add opT_int (tp_op op_add opT_int (tp_op op_mul opT_intc (tp_var 3) (tp_var 3)) (tp_var 2)) tp_int) tpa_nil)) tp_int)))
      (ts_one (ts_ret (tv_p (tp_op op_fdivW opT_intc (tp_var 4) tp_int))))))), fun ts R hW hlen => ?_⟩

  obtain ⟨s, t, rfl, h⟩ := hW
  walk_at "RD"
  have m1 : ∀ x : Int, -(2 ^ 64) < x % 2147483647 ∧ x % 2147483647 < 2 ^ 64 := fun x => by omega
  have m2 : ∀ x : Int, -(2 ^ 64) < x % 2147483629 ∧ x % 2147483629 < 2 ^ 64 := fun x => by omega
  exact ⟨cm2 (by decide) (by decide), cm2 (by decide) (by decide), by decide, rfl, cm1 (m1 _).1 (m1 _).2, cm2 (by decide) (by decide), by decide, rfl, cm1 (m2 _).1 (m2 _).2, by decide, rfl, ⟨by decide, by decide⟩, rfl, h _⟩
def W__law_draw : FnT := fun ts R => ∃ a b c m : Int, ts = [Li [a, b, c], .int m] ∧ 0 < m ∧ m < 9223372036854775808 ∧ ∀ v a' c', 0 ≤ v → v < m → R 0 (.int v) [Li [a', b, c']]
theorem ok__law_draw {k : Nat} (G : Gs K mg) : FnOk P w K mg base CX0 (k + 2) G.g__law_draw.f G.g__law_draw.d ["pool", "many"] (spT K [.io 1, .sh] W__law_draw) := by
  refine fnT (k := k + 1) G.g__law_draw.F sc__law_draw rfl (fun X cdv A outer s H E hX hr => ?_)
  subst hX
  refine ⟨_, (ts_cons (ts_if (tvt_p (tpt_cmp op_gt opT_bl (tp_ix (tp_var 0) tp_int (fun _ _ => rfl)) tp_int (nomark _))) (ts_cons (ts_set 2 sc__law_draw.nd rfl (.inl rfl) (tv_p (tp_op op_mod opT_intc (tp_callTy call_int1 caT_int1 (by rfl) G.z_int (by decide +kernel) (tpa_cons (tp_ix (tp_var 0) tp_int (fun _ _ => rfl)) tpa_nil)) (tp_var 1))))
      (ts_cons (ts_store 0 (tv_p (tp_op op_fdivW opT_intc (tp_ix (tp_var 0) tp_int (fun _ _ => rfl)) (tp_var 1))) tp_int)
      (ts_one (ts_ret (tv_p (tp_var 2)))))) ts_nil)
      (ts_cons (ts_store 0 (tv_p (tp_op op_add opT_int (tp_ix (tp_var 0) tp_int (fun _ _ => rfl)) tp_int)) tp_int)
      (ts_one (ts_ret (tv_p (tp_op op_mod opT_intc (tp_callTy call_int1 caT_int1 (by rfl) G.z_int (by decide +kernel) (tpa_cons (tp_call (ok__law_mix (k := k + 0) G) hr (by rfl) G.g__law_mix.g G.g__law_mix.F.kp G.g__law_mix.b (tpa_cons (tp_ix (tp_var 0) tp_int (fun _ _ => rfl)) (tpa_cons (tp_ix (tp_var 0) tp_int (fun _ _ => rfl)) tpa_nil))) tpa_nil)) (tp_var 1))))))), fun ts R hW hlen => ?_⟩

  obtain ⟨a, b, c, m, rfl, h0, h1, h⟩ := hW
  (first | walk_at "RD" | skip); repeat (simp -dsimp only [gq0, gq1, gq2, gp0, gp1, gp2, ix30, ix32]; first | walk_at "RD" | skip)
  refine ifS (fun q => ?_) (fun q => ?_)
  · exact ⟨h0, rfl, wide_div h0 (b := 63) (by omega) (by decide) (by decide), rfl, fit0, rfl, h _ _ _ (Int.emod_nonneg _ (by omega)) (Int.emod_lt_of_pos _ h0)⟩
  · exact ⟨rfl, fit0, b, c + 1, rfl, fun v => ⟨h0, rfl, h _ _ _ (Int.emod_nonneg _ (by omega)) (Int.emod_lt_of_pos _ h0)⟩⟩
def W__law_pick : FnT := fun ts R => ∃ (a b c : Int) (xs : List T), ts = [Li [a, b, c], .lst xs] ∧ 0 < xs.length ∧ xs.length ≤ 1000 ∧ ∀ x ∈ xs, ∀ a' c', R 0 x [Li [a', b, c']]
theorem ok__law_pick {k : Nat} (G : Gs K mg) : FnOk P w K mg base CX0 (k + 3) G.g__law_pick.f G.g__law_pick.d ["pool", "row"] (spT K [.io 1, .sh] W__law_pick) := by
  refine fnT (k := k + 2) G.g__law_pick.F sc__law_pick rfl (fun X cdv A outer s H E hX hr => ?_)
  subst hX
  refine ⟨_, (ts_one (ts_ret (tv_ix (tv_var 1) (tv_call (ok__law_draw (k := k + 0) G) hr (by rfl) G.g__law_draw.g G.g__law_draw.F.kp G.g__law_draw.b (tca_sl 0 (tca_tv 0 (tv_p (tp_callB call_len_seq caT_len (by rfl) G.z_len PySem.boot_len (tpa_cons (tp_var 1) tpa_nil))) tca_nil))) (fun _ _ => rfl)))), fun ts R hW hlen => ?_⟩

  obtain ⟨a, b, c, xs, rfl, h0, h1, h⟩ := hW
  walk_at "RD"
  refine ⟨rfl, fit0, a, b, c, _, rfl, by omega, by omega, fun v a' c' hv0 hv1 => ?_⟩
  obtain ⟨j, rfl⟩ := Int.eq_ofNat_of_zero_le hv0
  have hj : xs[j]? = some (xs[j]'(by omega)) := List.getElem?_eq_getElem (by omega)
  show (match atI xs (j : Int) with | some z => R (0 - 1) z [Li [a', b, c']] | none => False)
  rw [atI_natT hj]
  exact h _ (List.getElem_mem _) a' c'
def W__law_whole : FnT := fun ts R => ∃ t, ts = [t] ∧ t.tyn.isSome = true ∧ R 0 (.bl (isT .int t && !isT .bool t)) []
theorem ok__law_whole {k : Nat} (G : Gs K mg) : FnOk P w K mg base CX0 (k + 1) G.g__law_whole.f G.g__law_whole.d ["thing"] (spT K (allSh 1) W__law_whole) := by
  refine fnT (k := k + 0) G.g__law_whole.F sc__law_whole rfl (fun X cdv A outer s H E hX hr => ?_)
  subst hX
  refine ⟨_, (ts_one (ts_ret (tv_p (tp_and (tp_isi .int (by rfl) G.z_isinstance (by rfl) G.z_int (by decide +kernel) (tp_var 0)) (tp_one (tp_not (tp_isi .bool (by rfl) G.z_isinstance (by rfl) G.z_bool (by decide +kernel) (tp_var 0)))))))), fun ts R hW hlen => ?_⟩

  obtain ⟨t, rfl, h0, h⟩ := hW
  walk_at "RD"
  refine ⟨h0, ?_⟩
  cases e : isT .int t with
  | true =>
    rw [e, Bool.true_and] at h
    exact ⟨h0, rfl, h⟩
  | false =>
    rw [e, Bool.false_and] at h
    exact ⟨rfl, h⟩
-- the trees that are compared
mutual
def smlT : T → Bool
  | .tup ts => decide (ts.length ≤ 1000000) && smlTs ts
  | .nd .lst ts => decide (ts.length ≤ 1000000) && smlTs ts
  | .nd (.dK _) ts => smlTs ts
  | _ => true
def smlTs : List T → Bool
  | [] => true
  | t :: ts => smlT t && smlTs ts
end
theorem smlTs_iff : ∀ {ts : List T}, smlTs ts = true ↔ ∀ t ∈ ts, smlT t = true
  | [] => by simp [smlTs]
  | t :: ts => by rw [smlTs, Bool.and_eq_true, smlTs_iff]; simp
mutual
def okq : T → Nat → Bool
  | .non, _ => true
  | .bl _, _ => true
  | .int _, _ => true
  | .str s, _ => PyData.strOk s
  | .tup ts, n + 1 => okqs ts n
  | .nd .lst ts, n + 1 => okqs ts n
  | .nd (.dK ks) ts, n + 1 => (decide ks.Nodup && (decide (ks.length = ts.length) && decide (ks.length < 1000000))) && (ks.all (fun k => match k with | .inl _ => true | .inr s => PyData.strOk s) && okqs ts n)
  | _, _ => false
def okqs : List T → Nat → Bool
  | [], _ => true
  | t :: ts, n => okq t n && okqs ts n
end
theorem okqs_iff : ∀ {ts : List T} {n : Nat}, okqs ts n = true ↔ ∀ t ∈ ts, okq t n = true
  | [], n => by simp [okqs]
  | t :: ts, n => by rw [okqs, Bool.and_eq_true, okqs_iff]; simp
theorem putT_new {κ : Type} [DecidableEq κ] : ∀ {ks : List κ} {us : List T} {q : κ} {z : T}, ks.length = us.length → q ∉ ks → putT ks us q z = (ks ++ [q], us ++ [z])
  | [], us, q, z, h, _ => by
    have e : us = [] := List.eq_nil_of_length_eq_zero (by simpa using h.symm)
    subst e; rfl
  | k :: ks, [], q, z, h, _ => by simp at h
  | k :: ks, u :: us, q, z, h, hn => by
    rw [putT, if_neg (fun e => hn (by rw [e]; exact List.mem_cons_self)), putT_new (by simpa using h) (fun m => hn (List.mem_cons_of_mem _ m))]
    rfl
theorem lkT_get {κ : Type} [DecidableEq κ] : ∀ {ks : List κ} {us : List T} {i : Nat} {q : κ} {z : T}, ks.Nodup → ks[i]? = some q → us[i]? = some z → lkT ks us q = some z
  | [], _, _, _, _, _, h, _ => by simp at h
  | k :: ks, [], _, _, _, _, _, h => by simp at h
  | k :: ks, u :: us, 0, q, z, _, h1, h2 => by
    cases h1; cases h2
    rw [lkT, if_pos rfl]
  | k :: ks, u :: us, i + 1, q, z, hn, h1, h2 => by
    obtain ⟨a, b⟩ := List.nodup_cons.mp hn
    have m := List.mem_of_getElem? (show ks[i]? = some q by simpa using h1)
    rw [lkT, if_neg (fun e => a (by rw [e]; exact m)), lkT_get b (by simpa using h1) (by simpa using h2)]
theorem mapkT_get {ks : List Key} {i : Nat} {t : T} : (ks.map kT)[i]? = some t ↔ ∃ k, ks[i]? = some k ∧ t = kT k := by
  rw [List.getElem?_map]
  cases ks[i]? <;> simp [eq_comm]
theorem leafq {t : T} (h : t.okd 0 = true) : t.eqok = true ∧ t.eqv t = true := ⟨okd_eqok h (by omega), okd_refl h⟩
def W__law_same (n : Nat) : FnT := fun ts R => ∃ t, ts = [t, t] ∧ n ≤ 60 ∧ okq t n = true ∧ smlT t = true ∧ R 0 (.bl true) []
set_option maxHeartbeats 4000000 in
theorem ok__law_same : ∀ (n : Nat) {k : Nat} (G : Gs K mg), FnOk P w K mg base CX0 (k + (n + 2)) G.g__law_same.f G.g__law_same.d ["told", "due"] (spT K (allSh 2) (W__law_same n))
  | 0, k, G => by
    refine fnT (k := k + 1) G.g__law_same.F sc__law_same rfl (fun X cdv A outer s H E hX hr => ?_)
    subst hX
    refine ⟨_, (ts_cons (ts_if (tvt_p (tpt_cmp op_isN opT_isN (tp_var 1) tp_non (nomark _))) (ts_one (ts_ret (tv_p (tp_cmp op_isN opT_isN (tp_var 0) tp_non (nomark _))))) ts_nil)
      (ts_cons (ts_if (tvt_p (TPW.pt (tpw_or (tpt_cmp op_isBV opT_isBV (tp_var 1) tp_bl (nomark _)) (tpw_or1 (tpt_cmp op_isBV opT_isBV (tp_var 1) tp_bl (nomark _)))))) (ts_one (ts_ret (tv_p (tp_and (tp_isi .bool (by rfl) G.z_isinstance (by rfl) G.z_bool (by decide +kernel) (tp_var 0)) (tp_one (tp_cmp (op_eqD (eqU hr)) opT_eqD (tp_var 0) (tp_var 1) (nomark _))))))) ts_nil)
      (ts_cons (ts_if (tvt_p (tpt_val (tp_isi .int (by rfl) G.z_isinstance (by rfl) G.z_int (by decide +kernel) (tp_var 1)))) (ts_one (ts_ret (tv_p (tp_and (tp_call (ok__law_whole (k := k + 0) G) hr (by rfl) G.g__law_whole.g G.g__law_whole.F.kp G.g__law_whole.b (tpa_cons (tp_var 0) tpa_nil)) (tp_one (tp_cmp (op_eqD (eqU hr)) opT_eqD (tp_var 0) (tp_var 1) (nomark _))))))) ts_nil)
      (ts_cons (ts_if (tvt_p (tpt_val (tp_isi .str (by rfl) G.z_isinstance (by rfl) G.z_str (by decide +kernel) (tp_var 1)))) (ts_one (ts_ret (tv_p (tp_and (tp_isi .str (by rfl) G.z_isinstance (by rfl) G.z_str (by decide +kernel) (tp_var 0)) (tp_one (tp_cmp (op_eqD (eqU hr)) opT_eqD (tp_var 0) (tp_var 1) (nomark _))))))) ts_nil)
      (ts_cons ts_never
      (ts_cons ts_never
      (ts_cons ts_never
      (ts_cons ts_never
      (ts_cons ts_never
      (ts_one (ts_ret (tv_p tp_bl)))))))))))), fun ts R hW hlen => ?_⟩
    obtain ⟨t, rfl, h60, h1, h2, h⟩ := hW
    have nf := Bool.false_ne_true
    cases t using T.cs with
    | non =>
      obtain ⟨he, hv⟩ := leafq (t := .non) rfl
      have hty : T.non.tyn.isSome = true := rfl
      (first | walk_at "RD" | skip); repeat (simp -dsimp only [he, hv, hty]; first | walk_at "RD" | skip)
      exact ifT rfl ⟨rfl, h⟩
    | bl b =>
      obtain ⟨he, hv⟩ := leafq (t := .bl b) rfl
      have hty : (T.bl b).tyn.isSome = true := rfl
      (first | walk_at "RD" | skip); repeat (simp -dsimp only [he, hv, hty]; first | walk_at "RD" | skip)
      cases b with
      | true => exact ifF nf (ifT rfl (ifT rfl ⟨rfl, h⟩))
      | false => exact ifF nf (ifF nf (ifT rfl (ifT rfl ⟨rfl, h⟩)))
    | int i =>
      obtain ⟨he, hv⟩ := leafq (t := .int i) rfl
      have hty : (T.int i).tyn.isSome = true := rfl
      (first | walk_at "RD" | skip); repeat (simp -dsimp only [he, hv, hty]; first | walk_at "RD" | skip)
      exact ifF nf (ifF nf (ifF nf (ifT rfl ⟨_, rfl, rfl, ifT rfl ⟨rfl, h⟩⟩)))
    | str s =>
      obtain ⟨he, hv⟩ := leafq (t := .str s) h1
      have hty : (T.str s).tyn.isSome = true := rfl
      (first | walk_at "RD" | skip); repeat (simp -dsimp only [he, hv, hty]; first | walk_at "RD" | skip)
      exact ifF nf (ifF nf (ifF nf (ifF nf (ifT rfl (ifT rfl ⟨rfl, h⟩)))))
    | _ => exact absurd (show false = true from h1) nf
  | n + 1, k, G => by
    have IH := @ok__law_same n k G
    refine fnT (k := k + (n + 2)) G.g__law_same.F sc__law_same rfl (fun X cdv A outer s H E hX hr => ?_)
    subst hX
    refine ⟨_, (ts_cons (ts_if (tvt_p (tpt_cmp op_isN opT_isN (tp_var 1) tp_non (nomark _))) (ts_one (ts_ret (tv_p (tp_cmp op_isN opT_isN (tp_var 0) tp_non (nomark _))))) ts_nil)
      (ts_cons (ts_if (tvt_p (TPW.pt (tpw_or (tpt_cmp op_isBV opT_isBV (tp_var 1) tp_bl (nomark _)) (tpw_or1 (tpt_cmp op_isBV opT_isBV (tp_var 1) tp_bl (nomark _)))))) (ts_one (ts_ret (tv_p (tp_and (tp_isi .bool (by rfl) G.z_isinstance (by rfl) G.z_bool (by decide +kernel) (tp_var 0)) (tp_one (tp_cmp (op_eqD (eqU hr)) opT_eqD (tp_var 0) (tp_var 1) (nomark _))))))) ts_nil)
      (ts_cons (ts_if (tvt_p (tpt_val (tp_isi .int (by rfl) G.z_isinstance (by rfl) G.z_int (by decide +kernel) (tp_var 1)))) (ts_one (ts_ret (tv_p (tp_and (tp_call (ok__law_whole (k := k + (n + 1)) G) hr (by rfl) G.g__law_whole.g G.g__law_whole.F.kp G.g__law_whole.b (tpa_cons (tp_var 0) tpa_nil)) (tp_one (tp_cmp (op_eqD (eqU hr)) opT_eqD (tp_var 0) (tp_var 1) (nomark _))))))) ts_nil)
      (ts_cons (ts_if (tvt_p (tpt_val (tp_isi .str (by rfl) G.z_isinstance (by rfl) G.z_str (by decide +kernel) (tp_var 1)))) (ts_one (ts_ret (tv_p (tp_and (tp_isi .str (by rfl) G.z_isinstance (by rfl) G.z_str (by decide +kernel) (tp_var 0)) (tp_one (tp_cmp (op_eqD (eqU hr)) opT_eqD (tp_var 0) (tp_var 1) (nomark _))))))) ts_nil)
      (ts_cons (ts_if (tvt_p (tpt_val (tp_isi .dict (by rfl) G.z_isinstance (by rfl) G.z_dict (by decide +kernel) (tp_var 1)))) (ts_cons (ts_if (tvt_p (TPW.pt (tpw_or (tpt_not (tpt_val (tp_isi .dict (by rfl) G.z_isinstance (by rfl) G.z_dict (by decide +kernel) (tp_var 0)))) (tpw_or1 (tpt_cmp op_ne opT_neS (tp_callB call_lenA caT_lenA (by rfl) G.z_len PySem.boot_len (tpa_cons (tp_var 0) tpa_nil)) (tp_callB call_lenA caT_lenA (by rfl) G.z_len PySem.boot_len (tpa_cons (tp_var 1) tpa_nil)) (nomark _)))))) (ts_one (ts_ret (tv_p tp_bl))) ts_nil)
      (ts_cons (ts_set 3 sc__law_same.nd rfl (.inl rfl) tv_dnewK)
      (ts_cons (ts_forD PassesOwn.never rfl (tv_var 1) (tg_name 4 sc__law_same.nd rfl (.inl rfl)) (ts_one (ts_dput 3 (dU hr) (tv_var 4) (tp_var 4))))
      (ts_cons (ts_forD PassesOwn.never rfl (tv_var 0) (tg_name 4 sc__law_same.nd rfl (.inl rfl)) (ts_cons (ts_if (tvt_p (tpt_cmp (op_dnotin (dU hr)) (opT_dinB true) (tp_var 4) (tp_var 3) (by rfl))) (ts_one (ts_ret (tv_p tp_bl))) ts_nil)
      (ts_one (ts_if (tvt_p (TPW.pt (tpw_or (tpt_not (tpt_val (tp_call IH hr (by rfl) G.g__law_same.g G.g__law_same.F.kp G.g__law_same.b (tpa_cons (tp_var 4) (tpa_cons (tp_dget (dU hr) (tp_var 3) (tp_var 4)) tpa_nil))))) (tpw_or1 (tpt_not (tpt_val (tp_call IH hr (by rfl) G.g__law_same.g G.g__law_same.F.kp G.g__law_same.b (tpa_cons (tp_dget (dU hr) (tp_var 0) (tp_var 4)) (tpa_cons (tp_dget (dU hr) (tp_var 1) (tp_var 4)) tpa_nil))))))))) (ts_one (ts_ret (tv_p tp_bl))) ts_nil))))
      (ts_one (ts_ret (tv_p tp_bl))))))) ts_nil)
      (ts_cons (ts_if (tvt_p (TPW.pt (tpw_and (tpt_val (tp_isi .list (by rfl) G.z_isinstance (by rfl) G.z_list (by decide +kernel) (tp_var 1))) (tpw_and1 (tpt_not (tpt_val (tp_isi .list (by rfl) G.z_isinstance (by rfl) G.z_list (by decide +kernel) (tp_var 0)))))))) (ts_one (ts_ret (tv_p tp_bl))) ts_nil)
      (ts_cons (ts_if (tvt_p (TPW.pt (tpw_and (tpt_val (tp_isi .tup (by rfl) G.z_isinstance (by rfl) G.z_tuple (by decide +kernel) (tp_var 1))) (tpw_and1 (tpt_not (tpt_val (tp_isi .tup (by rfl) G.z_isinstance (by rfl) G.z_tuple (by decide +kernel) (tp_var 0)))))))) (ts_one (ts_ret (tv_p tp_bl))) ts_nil)
      (ts_cons (ts_if (tvt_p (tpt_cmp op_ne opT_neS (tp_callB call_lenA caT_lenA (by rfl) G.z_len PySem.boot_len (tpa_cons (tp_var 0) tpa_nil)) (tp_callB call_lenA caT_lenA (by rfl) G.z_len PySem.boot_len (tpa_cons (tp_var 1) tpa_nil)) (nomark _))) (ts_one (ts_ret (tv_p tp_bl))) ts_nil)
      (ts_cons (ts_for PassesOwn.never rfl (ti_rng1 (by rfl) G.z_range (tp_callB call_lenA caT_lenA (by rfl) G.z_len PySem.boot_len (tpa_cons (tp_var 1) tpa_nil))) (tg_name 2 sc__law_same.nd rfl (.inl rfl)) (ts_one (ts_if (tvt_p (tpt_not (tpt_val (tp_call IH hr (by rfl) G.g__law_same.g G.g__law_same.F.kp G.g__law_same.b (tpa_cons (tp_ix (tp_var 0) (tp_var 2) (fun _ _ => rfl)) (tpa_cons (tp_ix (tp_var 1) (tp_var 2) (fun _ _ => rfl)) tpa_nil)))))) (ts_one (ts_ret (tv_p tp_bl))) ts_nil)))
      (ts_one (ts_ret (tv_p tp_bl)))))))))))), fun ts R hW hlen => ?_⟩
    obtain ⟨t, rfl, h60, h1, h2, h⟩ := hW
    have nf := Bool.false_ne_true
    cases t using T.cs with
    | non =>
      obtain ⟨he, hv⟩ := leafq (t := .non) rfl
      have hty : T.non.tyn.isSome = true := rfl
      (first | walk_at "RD" | skip); repeat (simp -dsimp only [he, hv, hty]; first | walk_at "RD" | skip)
      exact ifT rfl ⟨rfl, h⟩
    | bl b =>
      obtain ⟨he, hv⟩ := leafq (t := .bl b) rfl
      have hty : (T.bl b).tyn.isSome = true := rfl
      (first | walk_at "RD" | skip); repeat (simp -dsimp only [he, hv, hty]; first | walk_at "RD" | skip)
      cases b with
      | true => exact ifF nf (ifT rfl (ifT rfl ⟨rfl, h⟩))
      | false => exact ifF nf (ifF nf (ifT rfl (ifT rfl ⟨rfl, h⟩)))
    | int i =>
      obtain ⟨he, hv⟩ := leafq (t := .int i) rfl
      have hty : (T.int i).tyn.isSome = true := rfl
      (first | walk_at "RD" | skip); repeat (simp -dsimp only [he, hv, hty]; first | walk_at "RD" | skip)
      exact ifF nf (ifF nf (ifF nf (ifT rfl ⟨_, rfl, rfl, ifT rfl ⟨rfl, h⟩⟩)))
    | str s =>
      obtain ⟨he, hv⟩ := leafq (t := .str s) h1
      have hty : (T.str s).tyn.isSome = true := rfl
      (first | walk_at "RD" | skip); repeat (simp -dsimp only [he, hv, hty]; first | walk_at "RD" | skip)
      exact ifF nf (ifF nf (ifF nf (ifF nf (ifT rfl (ifT rfl ⟨rfl, h⟩)))))
    | lst us =>
      have hty : (T.lst us).tyn.isSome = true := rfl
      (first | walk_at "RD" | skip); repeat (simp -dsimp only [hty]; first | walk_at "RD" | skip)
      have h1 : okqs us n = true := h1
      have h2 : (decide (us.length ≤ 1000000) && smlTs us) = true := by rw [smlT] at h2; exact h2
      rw [Bool.and_eq_true, decide_eq_true_eq] at h2
      refine ifF nf (ifF nf (ifF nf (ifF nf (ifF nf (ifF nf (ifT rfl (ifF nf (ifF nf (ifF (by simp) ⟨by omega, by omega, fun _ ρ => ∃ x2 x3 x4, ρ = [Ent.ow 0 (T.lst us), Ent.ow 0 (T.lst us), x2, x3, x4], ⟨_, _, _, rfl⟩, fun i t ρ hi hI => ?_, fun ρ hI => ?_⟩)))))))))
      · obtain ⟨x2, x3, x4, rfl⟩ := hI
        obtain ⟨hlt, rfl⟩ := rgT_get.mp hi
        rw [Int.zero_add]
        rw [Int.toNat_natCast] at hlt
        have hu := List.getElem?_eq_getElem hlt
        have hm := List.getElem_mem hlt
        walk_at "RD"
        exact gIx_lst hu (gIx_lst hu ⟨_, rfl, by omega, okqs_iff.mp h1 _ hm, smlTs_iff.mp h2.2 _ hm, ifF nf ⟨_, _, _, rfl⟩⟩)
      · obtain ⟨x2, x3, x4, rfl⟩ := hI
        walk_at "RD"
        exact ⟨rfl, h⟩
    | tup us =>
      have hty : (T.tup us).tyn.isSome = true := rfl
      (first | walk_at "RD" | skip); repeat (simp -dsimp only [hty]; first | walk_at "RD" | skip)
      have h1 : okqs us n = true := h1
      have h2 : (decide (us.length ≤ 1000000) && smlTs us) = true := by rw [smlT] at h2; exact h2
      rw [Bool.and_eq_true, decide_eq_true_eq] at h2
      refine ifF nf (ifF nf (ifF nf (ifF nf (ifF nf (ifF nf (ifF nf (ifT rfl (ifF nf (ifF (by simp) ⟨by omega, by omega, fun _ ρ => ∃ x2 x3 x4, ρ = [Ent.ow 0 (T.tup us), Ent.ow 0 (T.tup us), x2, x3, x4], ⟨_, _, _, rfl⟩, fun i t ρ hi hI => ?_, fun ρ hI => ?_⟩)))))))))
      · obtain ⟨x2, x3, x4, rfl⟩ := hI
        obtain ⟨hlt, rfl⟩ := rgT_get.mp hi
        rw [Int.zero_add]
        rw [Int.toNat_natCast] at hlt
        have hu := List.getElem?_eq_getElem hlt
        have hm := List.getElem_mem hlt
        walk_at "RD"
        exact gIx_tup hu (gIx_tup hu ⟨_, rfl, by omega, okqs_iff.mp h1 _ hm, smlTs_iff.mp h2.2 _ hm, ifF nf ⟨_, _, _, rfl⟩⟩)
      · obtain ⟨x2, x3, x4, rfl⟩ := hI
        walk_at "RD"
        exact ⟨rfl, h⟩
    | dK ks us =>
      have hty : (T.nd (.dK ks) us).tyn.isSome = true := rfl
      (first | walk_at "RD" | skip); repeat (simp -dsimp only [hty]; first | walk_at "RD" | skip)
      rw [okq, Bool.and_eq_true, Bool.and_eq_true, Bool.and_eq_true, Bool.and_eq_true, decide_eq_true_eq, decide_eq_true_eq, decide_eq_true_eq] at h1
      obtain ⟨⟨hnd, hlk, hlt⟩, hks, hus⟩ := h1
      have h2 : smlTs us = true := by rw [smlT] at h2; exact h2
      have nin : ∀ {i : Nat} {q : Key}, ks[i]? = some q → q ∉ ks.take i := fun {i q} h m => by
        obtain ⟨j, hj⟩ := List.mem_iff_getElem?.mp m
        rw [List.getElem?_take] at hj
        split at hj
        · rename_i hji
          have hl := (List.getElem?_eq_some_iff.mp h).1
          have e := (List.getElem_inj (h₀ := by omega) (h₁ := hl) hnd).mp ((List.getElem?_eq_some_iff.mp hj).2.trans (List.getElem?_eq_some_iff.mp h).2.symm)
          omega
        · cases hj
      refine ifF nf (ifF nf (ifF nf (ifF nf (ifF nf (ifT rfl (ifF nf (ifF (by simp) ⟨fun i ρ => ∃ x4, ρ = [Ent.ow 0 (T.nd (.dK ks) us), Ent.ow 0 (T.nd (.dK ks) us), Ent.no, Ent.ow 1 (T.nd (.dK (ks.take i)) ((ks.take i).map kT)), x4], ⟨_, rfl⟩, fun i t ρ hi hI => ?_, fun ρ hI => ?_⟩)))))))
      · obtain ⟨x4, rfl⟩ := hI
        obtain ⟨q, hq, rfl⟩ := mapkT_get.mp hi
        have hil := (List.getElem?_eq_some_iff.mp hq).1
        have pn := putT_new (us := (ks.take i).map kT) (z := kT q) (by rw [List.length_map]) (nin hq)
        walk_at "RD"
        rw [pn]
        refine ⟨fit0, by rw [List.length_map, List.length_take]; omega, Ent.ow 0 (kT q), ?_⟩
        rw [← take_snoc hq, List.map_append]
        rfl
      · obtain ⟨x4, rfl⟩ := hI
        rw [List.length_map, List.take_length]
        walk_at "RD"
        refine ⟨fun i ρ => ∃ x4, ρ = [Ent.ow 0 (T.nd (.dK ks) us), Ent.ow 0 (T.nd (.dK ks) us), Ent.no, Ent.ow 1 (T.nd (.dK ks) (ks.map kT)), x4], ⟨_, rfl⟩, fun i t ρ hi hI => ?_, fun ρ hI => ?_⟩
        · obtain ⟨x4, rfl⟩ := hI
          obtain ⟨q, hq, rfl⟩ := mapkT_get.mp hi
          have hil := (List.getElem?_eq_some_iff.mp hq).1
          have hu : us[i]? = some (us[i]'(by omega)) := List.getElem?_eq_getElem (by omega)
          have l1 := lkT_get hnd hq (show (ks.map kT)[i]? = some (kT q) by rw [List.getElem?_map, hq]; rfl)
          have l2 := lkT_get hnd hq hu
          have hm := List.getElem_mem (show i < us.length by omega)
          (first | walk_at "RD" | skip); repeat (simp -dsimp only [l1, l2]; first | walk_at "RD" | skip)
          have kq : okq (kT q) n = true := by
            have z := List.all_eq_true.mp hks q (List.mem_of_getElem? hq)
            cases q with
            | inl i => cases n <;> rfl
            | inr s => cases n <;> exact z
          have ks' : smlT (kT q) = true := by cases q <;> rfl
          exact ifF (by decide) ⟨_, rfl, by omega, kq, ks', ifF (by decide) ⟨_, rfl, by omega, okqs_iff.mp hus _ hm, smlTs_iff.mp h2 _ hm, ifF (by decide) ⟨_, rfl⟩⟩⟩
        · obtain ⟨x4, rfl⟩ := hI
          walk_at "RD"
          exact ⟨rfl, h⟩
    | _ => exact absurd (show false = true from h1) nf
theorem callDraw_io {R : Nat → T → List Ent → Prop} {u : KDep R} {a b c m : Int} {x : T} {ρ : List Ent} (h0 : 0 < m) (h1 : m < 9223372036854775808) (h : ∀ v a' c', 0 ≤ v → v < m → R 0 (.int v) (.io 1 (Li [a', b, c']) :: killJ [0] ρ)) :
    callAt [.io 1, .sh] [.sl 0, .tv 0] W__law_draw R u [x, .int m] (.io 1 (Li [a, b, c]) :: ρ) := by
  unfold callAt
  rw [inT_io1]
  refine ⟨a, b, c, m, rfl, h0, h1, fun v a' c' h2 h3 => ?_⟩
  show R 0 (.int v) (putL [(0, Li [a', b, c'])] 0 (.io 1 (Li [a, b, c]) :: killJ [0] ρ))
  rw [putL_0]
  exact h v a' c' h2 h3
theorem callPick_io {R : Nat → T → List Ent → Prop} {u : KDep R} {a b c : Int} {xs : List T} {x : T} {ρ : List Ent} (h0 : 0 < xs.length) (h1 : xs.length ≤ 1000) (h : ∀ v ∈ xs, ∀ a' c', R 0 v (.io 1 (Li [a', b, c']) :: killJ [0] ρ)) :
    callAt [.io 1, .sh] [.sl 0, .tv 0] W__law_pick R u [x, .lst xs] (.io 1 (Li [a, b, c]) :: ρ) := by
  unfold callAt
  rw [inT_io1]
  refine ⟨a, b, c, xs, rfl, h0, h1, fun v hv a' c' => ?_⟩
  show R 0 v (putL [(0, Li [a', b, c'])] 0 (.io 1 (Li [a, b, c]) :: killJ [0] ρ))
  rw [putL_0]
  exact h v hv a' c'
end
end K95
set_option Elab.async false
set_option linter.all false
set_option maxRecDepth 100000
namespace K95
open PySem PySem.Spec PyProof.Rows L2 L2H TL
/-! tickets -/
abbrev Tk := Int × Int × Int × Int
def tkT (t : Tk) : T := .tup [.int t.1, .int t.2.1, .int t.2.2.1, .int t.2.2.2]
def tkK (t : Tk) : List Key := [.inl t.1, .inl t.2.1, .inl t.2.2.1, .inl t.2.2.2]
def tkL (t : Tk) : List Int := [t.1, t.2.1, t.2.2.1, t.2.2.2]
def tsT (l : List Tk) : T := .lst (l.map tkT)
def hsT (ls : List (List Tk)) : T := .lst (ls.map tsT)
theorem tkL_inj {a b : Tk} (h : tkL a = tkL b) : a = b := by
  obtain ⟨a1, a2, a3, a4⟩ := a
  obtain ⟨b1, b2, b3, b4⟩ := b
  simp only [tkL, List.cons.injEq, and_true] at h
  obtain ⟨rfl, rfl, rfl, rfl⟩ := h
  rfl
theorem tkK_inj {a b : Tk} (h : tkK a = tkK b) : a = b := by
  obtain ⟨a1, a2, a3, a4⟩ := a
  obtain ⟨b1, b2, b3, b4⟩ := b
  simp only [tkK, List.cons.injEq, and_true, Sum.inl.injEq] at h
  obtain ⟨rfl, rfl, rfl, rfl⟩ := h
  rfl
def unTk : T → Tk
  | .tup [.int a, .int b, .int c, .int d] => (a, b, c, d)
  | _ => (0, 0, 0, 0)
theorem unTk_tk (t : Tk) : unTk (tkT t) = t := rfl
theorem tkT_inj {a b : Tk} (h : tkT a = tkT b) : a = b := by rw [← unTk_tk a, ← unTk_tk b, h]
abbrev Pd := Tk × Int
def pdT (p : Pd) : T := .tup [tkT p.1, .int p.2]
def pdsT (l : List Pd) : T := .lst (l.map pdT)
def unPd : T → Pd
  | .tup [t, .int h] => (unTk t, h)
  | _ => ((0, 0, 0, 0), 0)
theorem unPd_pd (p : Pd) : unPd (pdT p) = p := rfl
/-! order -/
theorem pd_tk (t : Tk) : (tkT t).pd = .tuple ((tkL t).map .int) := by simp [tkT, tkL, T.pd, T.pds]
theorem al_tk (t u : Tk) : PySem.W.alike (tkT t).pd (tkT u).pd = true := by
  rw [pd_tk, pd_tk, PySem.W.alike]; exact PySem.W.alike_ints _ _
theorem eqv_tk (t u : Tk) : (tkT t).eqv (tkT u) = decide (t = u) := by
  show PyData.eqv (tkT t).pd (tkT u).pd = _
  obtain ⟨a1, a2, a3, a4⟩ := t
  obtain ⟨b1, b2, b3, b4⟩ := u
  simp only [tkT, T.pd, T.pds, PyData.eqv, PyData.eqvAll, Bool.and_true]
  by_cases h : ((a1, a2, a3, a4) : Tk) = (b1, b2, b3, b4)
  · cases h; simp
  · rw [decide_eq_false h]
    simp only [Prod.mk.injEq, not_and] at h
    by_cases h1 : a1 = b1 <;> by_cases h2 : a2 = b2 <;> by_cases h3 : a3 = b3 <;> simp_all
theorem eqv_pd (p q : Pd) : (pdT p).eqv (pdT q) = decide (p = q) := by
  show PyData.eqv (pdT p).pd (pdT q).pd = _
  obtain ⟨t, h⟩ := p
  obtain ⟨u, g⟩ := q
  have e : PyData.eqv (tkT t).pd (tkT u).pd = decide (t = u) := eqv_tk t u
  simp only [pdT, T.pd, T.pds, PyData.eqv, PyData.eqvAll, Bool.and_true, e]
  by_cases h1 : t = u <;> by_cases h2 : h = g <;> simp_all
/-- t before u -/
def ltTk (t u : Tk) : Prop := tkL t < tkL u
instance (t u : Tk) : Decidable (ltTk t u) := inferInstanceAs (Decidable (tkL t < tkL u))
theorem dl_tk (t u : Tk) : PySem.W.dataLt (tkT t).pd (tkT u).pd = decide (ltTk t u) := by
  rw [pd_tk, pd_tk, PySem.W.dataLt_tuple]
  exact PySem.W.dataLt_ints _ _
theorem tle_tk (t u : Tk) : leD (tkT t) (tkT u) ↔ ¬ ltTk u t := by
  unfold leD
  rw [dl_tk]
  simp
def ltPd (p q : Pd) : Prop := ltTk p.1 q.1 ∨ (p.1 = q.1 ∧ p.2 < q.2)
theorem al_pd (p q : Pd) : PySem.W.alike (pdT p).pd (pdT q).pd = true := by
  show PySem.W.alike (.tuple [(tkT p.1).pd, .int p.2]) (.tuple [(tkT q.1).pd, .int q.2]) = true
  simp only [PySem.W.alike, PySem.W.alikeAll, Bool.and_true]
  exact al_tk _ _
theorem tle_pd (p q : Pd) : leD (pdT p) (pdT q) ↔ ¬ ltPd q p := by
  unfold leD ltPd
  show PySem.W.dataLt (.tuple [(tkT q.1).pd, .int q.2]) (.tuple [(tkT p.1).pd, .int p.2]) = false ↔ _
  rw [PySem.W.dataLt_pair (al_tk _ _) (by simp [PySem.W.alike])]
  have e : PyData.eqv (tkT q.1).pd (tkT p.1).pd = decide (q.1 = p.1) := eqv_tk _ _
  rw [e, dl_tk, PySem.W.dataLt_int]
  have irr : ∀ t : Tk, ¬ ltTk t t := fun t => List.lt_irrefl _
  by_cases h : q.1 = p.1
  · rw [h]
    simp only [decide_true, if_true, irr, false_or, true_and]
    by_cases h2 : q.2 = p.2
    · rw [h2]; simp [PyData.eqv]
    · have : PyData.eqv (.int q.2) (.int p.2) = false := by simp [PyData.eqv, h2]
      rw [this]
      simp
  · rw [if_neg (by simpa using h)]
    simp [h]
theorem ltTk_irr (t : Tk) : ¬ ltTk t t := List.lt_irrefl _
theorem tk_anti {t u : Tk} (h1 : ¬ ltTk t u) (h2 : ¬ ltTk u t) : t = u := tkL_inj (List.le_antisymm (as := tkL t) (bs := tkL u) h2 h1)
theorem ltTk_trans {t u v : Tk} (h1 : ltTk t u) (h2 : ltTk u v) : ltTk t v := List.lt_trans h1 h2
theorem pd_anti {p q : Pd} (h1 : ¬ ltPd p q) (h2 : ¬ ltPd q p) : p = q := by
  unfold ltPd at h1 h2
  rw [not_or] at h1 h2
  have e := tk_anti h1.1 h2.1
  refine Prod.ext e ?_
  have a : ¬ p.2 < q.2 := fun z => h1.2 ⟨e, z⟩
  have b : ¬ q.2 < p.2 := fun z => h2.2 ⟨e.symm, z⟩
  omega
/-- ordered lists without twins and with the same items are equal -/
theorem ord_unique {α : Type} {lt : α → α → Prop} (anti : ∀ {a b : α}, ¬ lt a b → ¬ lt b a → a = b) : ∀ {l m : List α}, l.Nodup → m.Nodup → l.Pairwise (fun a b => ¬ lt b a) → m.Pairwise (fun a b => ¬ lt b a) → (∀ x, x ∈ l ↔ x ∈ m) → l = m
  | [], [], _, _, _, _, _ => rfl
  | [], y :: m, _, _, _, _, h => absurd ((h y).mpr List.mem_cons_self) (by simp)
  | x :: l, [], _, _, _, _, h => absurd ((h x).mp List.mem_cons_self) (by simp)
  | x :: l, y :: m, n1, n2, p1, p2, h => by
    have e : x = y := by
      rcases List.mem_cons.mp ((h x).mp List.mem_cons_self) with e | hx
      · exact e
      rcases List.mem_cons.mp ((h y).mpr List.mem_cons_self) with e | hy
      · exact e.symm
      exact anti ((List.pairwise_cons.mp p2).1 x hx) ((List.pairwise_cons.mp p1).1 y hy)
    subst e
    obtain ⟨a1, b1⟩ := List.nodup_cons.mp n1
    obtain ⟨a2, b2⟩ := List.nodup_cons.mp n2
    rw [ord_unique anti b1 b2 (List.pairwise_cons.mp p1).2 (List.pairwise_cons.mp p2).2 fun z => ⟨fun hz => ?_, fun hz => ?_⟩]
    · rcases List.mem_cons.mp ((h z).mp (List.mem_cons_of_mem _ hz)) with e | hz'
      · subst e; exact absurd hz a1
      · exact hz'
    · rcases List.mem_cons.mp ((h z).mpr (List.mem_cons_of_mem _ hz)) with e | hz'
      · subst e; exact absurd hz a2
      · exact hz'
theorem perm_map {α β : Type} {f : α → β} {g : β → α} (hg : ∀ a, g (f a) = a) {qs : List β} {l : List α} (h : qs.Perm (l.map f)) : ∃ m : List α, m.Perm l ∧ qs = m.map f := by
  refine ⟨qs.map g, ?_, ?_⟩
  · have z := h.map g
    rw [List.map_map] at z
    have e : l.map (g ∘ f) = l := by
      conv => rhs; rw [← List.map_id l]
      exact List.map_congr_left fun a _ => hg a
    rwa [e] at z
  · rw [List.map_map]
    conv => lhs; rw [← List.map_id qs]
    refine List.map_congr_left fun b hb => ?_
    obtain ⟨a, _, rfl⟩ := List.mem_map.mp (h.mem_iff.mp hb)
    show f a = f (g (f a))
    rw [hg]
theorem srt_tk (l : List Tk) : SrtOk (l.map tkT) where
  data := fun t h => by obtain ⟨u, _, rfl⟩ := List.mem_map.mp h; rfl
  flat := flats_iff'.mpr fun t h => by obtain ⟨u, _, rfl⟩ := List.mem_map.mp h; rfl
  alike := fun t h u g => by
    obtain ⟨t, _, rfl⟩ := List.mem_map.mp h
    obtain ⟨u, _, rfl⟩ := List.mem_map.mp g
    exact al_tk t u
  kind := .inl fun d h => by
    obtain ⟨t, g, rfl⟩ := List.mem_map.mp h
    obtain ⟨t, _, rfl⟩ := List.mem_map.mp g
    exact ⟨_, _, by rw [tkT, T.pd, T.pds]⟩
  deep := fun t h => by
    obtain ⟨t, _, rfl⟩ := List.mem_map.mp h
    rw [pd_tk, PyData.depth, PySem.W.depth_ints]
    decide
theorem srt_pd (l : List Pd) : SrtOk (l.map pdT) where
  data := fun t h => by obtain ⟨u, _, rfl⟩ := List.mem_map.mp h; rfl
  flat := flats_iff'.mpr fun t h => by obtain ⟨u, _, rfl⟩ := List.mem_map.mp h; rfl
  alike := fun t h u g => by
    obtain ⟨t, _, rfl⟩ := List.mem_map.mp h
    obtain ⟨u, _, rfl⟩ := List.mem_map.mp g
    exact al_pd t u
  kind := .inl fun d h => by
    obtain ⟨t, g, rfl⟩ := List.mem_map.mp h
    obtain ⟨t, _, rfl⟩ := List.mem_map.mp g
    exact ⟨_, _, by rw [pdT, T.pd, T.pds]⟩
  deep := fun t h => by
    obtain ⟨t, _, rfl⟩ := List.mem_map.mp h
    show (PyData.tuple [(tkT t.1).pd, .int t.2]).depth ≤ 32
    rw [pd_tk, PyData.depth, PyData.depthAll, PyData.depthAll, PyData.depthAll, PyData.depth, PyData.depth, PySem.W.depth_ints]
    decide
theorem tKeys_tk (t : Tk) : tKeys (tkT t) = some (tkK t) := rfl
/-! the dict of the hearers -/
def lkE : List (Tk × List Int) → Tk → Option (List Int)
  | [], _ => none
  | (k, v) :: E, t => if k = t then some v else lkE E t
def putE : List (Tk × List Int) → Tk → List Int → List (Tk × List Int)
  | [], t, v => [(t, v)]
  | (k, w) :: E, t, v => if k = t then (k, v) :: E else (k, w) :: putE E t v
def ksE (E : List (Tk × List Int)) : List (List Key) := E.map fun e => tkK e.1
def vsE (E : List (Tk × List Int)) : List T := E.map fun e => Li e.2
def dE (E : List (Tk × List Int)) : T := .nd (.dT (ksE E)) (vsE E)
theorem lkT_E (t : Tk) : ∀ E, lkT (ksE E) (vsE E) (tkK t) = (lkE E t).map fun v => Li v
  | [] => rfl
  | (k, v) :: E => by
    show (if tkK k = tkK t then some (Li v) else lkT (ksE E) (vsE E) (tkK t)) = _
    rw [lkE]
    by_cases h : k = t
    · rw [if_pos h, if_pos (by rw [h])]; rfl
    · rw [if_neg h, if_neg (fun z => h (tkK_inj z)), lkT_E t E]
theorem putT_E (t : Tk) (v : List Int) : ∀ E, putT (ksE E) (vsE E) (tkK t) (Li v) = (ksE (putE E t v), vsE (putE E t v))
  | [] => rfl
  | (k, w) :: E => by
    show (if tkK k = tkK t then (tkK k :: ksE E, Li v :: vsE E) else ((tkK k :: (putT (ksE E) (vsE E) (tkK t) (Li v)).1), Li w :: (putT (ksE E) (vsE E) (tkK t) (Li v)).2)) = _
    rw [putE]
    by_cases h : k = t
    · rw [if_pos h, if_pos (by rw [h])]; rfl
    · rw [if_neg h, if_neg (fun z => h (tkK_inj z)), putT_E t v E]; rfl
theorem lkE_put (t : Tk) (v : List Int) (q : Tk) : ∀ E, lkE (putE E t v) q = if t = q then some v else lkE E q
  | [] => by rw [putE, lkE]; rfl
  | (k, w) :: E => by
    rw [putE]
    by_cases h : k = t
    · rw [if_pos h, lkE, lkE]
      subst h
      by_cases h2 : k = q
      · rw [if_pos h2, if_pos h2]
      · rw [if_neg h2, if_neg h2, if_neg h2]
    · rw [if_neg h, lkE, lkE, lkE_put t v q E]
      by_cases h2 : k = q
      · rw [if_pos h2, if_pos h2, if_neg (fun z => h (h2.trans z.symm))]
      · rw [if_neg h2, if_neg h2]
theorem len_put (t : Tk) (v : List Int) : ∀ E, (putE E t v).length ≤ E.length + 1
  | [] => Nat.le_refl _
  | (k, w) :: E => by
    rw [putE]
    split
    · exact Nat.le_succ _
    · rw [List.length_cons, List.length_cons]; exact Nat.succ_le_succ (len_put t v E)
theorem mem_lkE (t : Tk) : ∀ E, (lkE E t).isSome = true ↔ t ∈ E.map (·.1)
  | [] => by simp [lkE]
  | (k, v) :: E => by
    rw [lkE, List.map_cons, List.mem_cons]
    by_cases h : k = t
    · rw [if_pos h]; simp [h]
    · rw [if_neg h, mem_lkE t E]
      constructor
      · exact .inr
      · rintro (e | e)
        · exact absurd e.symm h
        · exact e
theorem nd_put (t : Tk) (v : List Int) : ∀ {E}, (E.map (·.1)).Nodup → ((putE E t v).map (·.1)).Nodup
  | [], _ => by simp [putE]
  | (k, w) :: E, h => by
    rw [List.map_cons] at h
    obtain ⟨h1, h2⟩ := List.nodup_cons.mp h
    rw [putE]
    split
    · exact h
    · rename_i hk
      rw [List.map_cons]
      refine List.nodup_cons.mpr ⟨fun z => ?_, nd_put t v h2⟩
      have z2 := (mem_lkE _ _).mpr z
      rw [lkE_put] at z2
      rw [if_neg (fun e => hk e.symm)] at z2
      exact h1 ((mem_lkE _ _).mp z2)
/-! who has heard of what -/
def Hd (ls : List (List Tk)) (h : Int) (t : Tk) : Prop := ∃ (i : Nat) (l : List Tk), h = i ∧ ls[i]? = some l ∧ t ∈ l
structure OkL (ls : List (List Tk)) : Prop where
  len : ls.length ≤ 6
  each : ∀ (i : Nat) (l : List Tk), ls[i]? = some l → l.length ≤ 100 ∧ ∀ t ∈ l, t.1 ≠ t.2.1 ∧ (0 ≤ t.1 ∧ t.1 < ls.length) ∧ (0 ≤ t.2.1 ∧ t.2.1 < ls.length) ∧ (t.1 = i ∨ t.2.1 = i)
def Both (ls : List (List Tk)) (t : Tk) : Prop := Hd ls t.1 t ∧ Hd ls t.2.1 t
def Half (ls : List (List Tk)) (p : Pd) : Prop := (p.2 = p.1.1 ∧ ¬ Hd ls p.1.1 p.1 ∧ Hd ls p.1.2.1 p.1) ∨ (p.2 = p.1.2.1 ∧ ¬ Hd ls p.1.2.1 p.1 ∧ Hd ls p.1.1 p.1)
def IsM (ls : List (List Tk)) (m : List Tk) : Prop := m.Nodup ∧ m.Pairwise (fun a b => ¬ ltTk b a) ∧ ∀ t, t ∈ m ↔ Both ls t
def IsH (ls : List (List Tk)) (m : List Pd) : Prop := m.Nodup ∧ m.Pairwise (fun a b => ¬ ltPd b a) ∧ ∀ t, t ∈ m ↔ Half ls t
theorem IsM.unique {ls : List (List Tk)} {m n : List Tk} (h : IsM ls m) (g : IsM ls n) : m = n := ord_unique tk_anti h.1 g.1 h.2.1 g.2.1 fun x => (h.2.2 x).trans (g.2.2 x).symm
theorem IsH.unique {ls : List (List Tk)} {m n : List Pd} (h : IsH ls m) (g : IsH ls n) : m = n := ord_unique pd_anti h.1 g.1 h.2.1 g.2.1 fun x => (h.2.2 x).trans (g.2.2 x).symm
/-- the dict of all hearers -/
structure IsE (ls : List (List Tk)) (E : List (Tk × List Int)) : Prop where
  nd : (E.map (·.1)).Nodup
  len : E.length ≤ 600
  hd : ∀ t h, (∃ v, lkE E t = some v ∧ h ∈ v) ↔ Hd ls h t
  ne : ∀ t v, lkE E t = some v → v ≠ []
  few : ∀ t v, lkE E t = some v → v.length ≤ 600
end K95
set_option Elab.async false
set_option linter.all false
set_option maxRecDepth 100000
namespace K95
open PySem PySem.Spec PyProof.Rows L2 L2H TL
local macro_rules | `(tactic| walk_at "RD") => `(tactic| simp -dsimp only [↓uSeq, ↓uNext, ↓uFor, ↓uSt, ↓uStV, ↓uAu, ↓uAp, ↓uApMv, ↓uAuN, ↓uAlias, ↓uDem, ↓uBrk, ↓uCnt, ↓uNev, ↓uRet, ↓uRetN, ↓uExp, ↓uExpP, ↓uRaise1, ↓wCallX, ↓uExpX, ↓uRetX, ↓uSetX, ↓uTryE, ↓uForD, ↓uAsgT, ↓wSlT, ↓gCatT, ↓uForV, ↓uForI, ↓uDp, ↓uSt2, ↓uAu2, ↓uAp2, ↓uDemK, ↓wDG1, ↓wDG2, ↓wDisp, ↓vKD, ↓vKG, ↓vKL, ↓vDN, ↓vLend, ↓gDG, ↓gDI, ↓gGet, ↓gLenA, ↓gStrI, ↓gTupl, ↓gDict, ↓iZp3, ↓TL.iRngV, kidT, ↓tKey_int, ↓tKey_str, ↓tKey_kT, ↓tKeyL, ↓tKeys, ↓ownD, kidsOf, ndSet, dput, dlook, noX, rdE, demK, ↓gLtT, ↓iRngD, ↓vSortP, ↓vCat, ↓vCatV, ↓gCat, ↓uSet, ↓uSetR, ↓uIf, ↓wVar, ↓wVarV, ↓wC, ↓w1, ↓w2, ↓wT, asB, ↓wChain, ↓wNil, ↓wCons, ↓wAnd, ↓wOr, ↓wNot, ↓wAndV, ↓wOrV, ↓wNotV, ↓wIf, ↓wCallP, ↓wCallV, ↓wCa, ↓wTup, ↓wLst, ↓oNon, ↓oSom, ↓wSlice, ↓wRev, ↓vP, ↓vSh, ↓vFit, ↓vaNil, ↓vaCons, ↓vLst, ↓vTup, ↓vTup0, ↓vList, ↓vRep, ↓vSlice, ↓cSl, ↓vCallN, ↓v1, ↓vCa, ↓vIx, ↓tP, ↓vAnd, ↓vOr, ↓vNot, ↓vIf, ↓vT, ↓v2, ↓vLc, ↓gI2, ↓gI2c, ↓gLen, ↓gII, ↓gI, ↓gInt1, ↓gRep, ↓gKids, ↓gIn, ↓iLst, ↓TL.iTup, ↓TL.iRng1, ↓TL.iRng2, ↓iEn, ↓iZp, ↓hName, ↓hCons, ↓hNil, ↓hTup, ↓wSl, ↓wIsi, ↓wYes, rho0, iniE, entOf, allSh, List.replicate, List.length_cons, List.length_nil, Nat.reduceAdd, Nat.reduceSub, Nat.reduceLT, Nat.reduceLeDiff, List.cons_append, List.nil_append, List.getElem?_cons_zero, List.getElem?_cons_succ, Option.bind_some, Ent.tr, Ent.own, Ent.put, setE, killA, noAl_ow, noAl_io1, noAl_no, noAl_ro, noAl_al', killJ_cons, killJ_nil0, noRo_ow, noRo_io, noRo_no, noRo_al, mem1, notIn, noRA_ow, noRA_io, noRA_no, noRA_al, Plc, demE, List.foldl_cons, List.foldl_nil, List.map_cons, List.map_nil, List.set_cons_zero, List.set_cons_succ, endsOf, ↓outsOf, Option.map_some, plSet, TL.putAt, T.put, true_and, and_true, lst_set, lst_snoc, lm_set, lm_snoc, shOnly, shE_ow0, shE_ow1, shE_io, shE_no, Option.isSome_some, reduceIte, if_true, if_false, Bool.false_eq_true, Nat.reduceEqDiff, ↓vRev, ↓vPure, frz_cons, frz_nil, frzE, ↓gInD, ↓vSortG, ↓vSortDT, ↓vAndB, ↓vOrB, dE, ↓tsT, pdsT, ↓tKeys_tk, lkT_E, putT_E])
section
variable {P : Program} {w : World} {K : PySem.W.Frag} {mg : Str → Option Value} {base : Heap}
/-- what has been heard in the lists before i and in the first j of list i -/
def Occ (ls : List (List Tk)) (i j : Nat) (h : Int) (t : Tk) : Prop := (∃ i' : Nat, i' < i ∧ h = i' ∧ ∃ l, ls[i']? = some l ∧ t ∈ l) ∨ (h = i ∧ ∃ l, ls[i]? = some l ∧ t ∈ l.take j)
structure PartE (ls : List (List Tk)) (i j : Nat) (E : List (Tk × List Int)) : Prop where
  nd : (E.map (·.1)).Nodup
  len : E.length ≤ 100 * i + j
  hd : ∀ t h, (∃ v, lkE E t = some v ∧ h ∈ v) ↔ Occ ls i j h t
  ne : ∀ t v, lkE E t = some v → v ≠ []
  few : ∀ t v, lkE E t = some v → v.length ≤ 100 * i + j
theorem PartE.zero (ls : List (List Tk)) : PartE ls 0 0 [] := by
  refine ⟨List.nodup_nil, Nat.zero_le _, fun t h => ⟨fun ⟨v, e, _⟩ => (nomatch e), fun z => ?_⟩, fun t v e => (nomatch e), fun t v e => (nomatch e)⟩
  rcases z with ⟨i', h1, _⟩ | ⟨_, l, _, h2⟩
  · omega
  · simp at h2
theorem occ_step {ls : List (List Tk)} {i j : Nat} {l : List Tk} {t : Tk} (hl : ls[i]? = some l) (ht : l[j]? = some t) (h : Int) (u : Tk) : Occ ls i (j + 1) h u ↔ Occ ls i j h u ∨ (h = i ∧ u = t) := by
  unfold Occ
  constructor
  · rintro (z | ⟨e, l', hl', hm⟩)
    · exact .inl (.inl z)
    · rw [hl] at hl'; cases hl'
      rw [← take_snoc ht] at hm
      rcases List.mem_append.mp hm with m | m
      · exact .inl (.inr ⟨e, l, hl, m⟩)
      · exact .inr ⟨e, List.mem_singleton.mp m⟩
  · rintro ((z | ⟨e, l', hl', hm⟩) | ⟨e, rfl⟩)
    · exact .inl z
    · rw [hl] at hl'; cases hl'
      exact .inr ⟨e, l, hl, by rw [← take_snoc ht]; exact List.mem_append_left _ hm⟩
    · exact .inr ⟨e, l, hl, by rw [← take_snoc ht]; exact List.mem_append_right _ (List.mem_singleton.mpr rfl)⟩
theorem PartE.row {ls : List (List Tk)} {i : Nat} {l : List Tk} {E : List (Tk × List Int)} (h : PartE ls i l.length E) (hl : ls[i]? = some l) (hb : l.length ≤ 100) : PartE ls (i + 1) 0 E := by
  refine ⟨h.nd, by have := h.len; omega, fun t g => (h.hd t g).trans ?_, h.ne, fun t v e => by have := h.few t v e; omega⟩
  unfold Occ
  constructor
  · rintro (⟨i', h1, h2⟩ | ⟨e, l', hl', hm⟩)
    · exact .inl ⟨i', by omega, h2⟩
    · rw [hl] at hl'; cases hl'
      rw [List.take_length] at hm
      exact .inl ⟨i, by omega, e, l, hl, hm⟩
  · rintro (⟨i', h1, h2, l', hl', hm⟩ | ⟨e, l', _, hm⟩)
    · by_cases q : i' = i
      · subst q
        rw [hl] at hl'; cases hl'
        exact .inr ⟨h2, l, hl, by rw [List.take_length]; exact hm⟩
      · exact .inl ⟨i', by omega, h2, l', hl', hm⟩
    · simp at hm
theorem PartE.same {ls : List (List Tk)} {i j : Nat} {l : List Tk} {t : Tk} {E : List (Tk × List Int)} {v : List Int} (h : PartE ls i j E) (hl : ls[i]? = some l) (ht : l[j]? = some t) (hv : lkE E t = some v) (hm : (i : Int) ∈ v) : PartE ls i (j + 1) E := by
  refine ⟨h.nd, by have := h.len; omega, fun u g => (h.hd u g).trans ?_, h.ne, fun t v e => by have := h.few t v e; omega⟩
  rw [occ_step hl ht]
  refine ⟨.inl, ?_⟩
  rintro (z | ⟨rfl, rfl⟩)
  · exact z
  · exact (h.hd _ _).mp ⟨v, hv, hm⟩
theorem PartE.put {ls : List (List Tk)} {i j : Nat} {l : List Tk} {t : Tk} {E : List (Tk × List Int)} (h : PartE ls i j E) (hl : ls[i]? = some l) (ht : l[j]? = some t) : PartE ls i (j + 1) (putE E t ((lkE E t).getD [] ++ [(i : Int)])) := by
  refine ⟨nd_put _ _ h.nd, by have := h.len; have := len_put t ((lkE E t).getD [] ++ [(i : Int)]) E; omega, fun u g => ?_, fun u v e => ?_, fun u v e => ?_⟩
  · rw [occ_step hl ht, ← h.hd, lkE_put]
    by_cases q : t = u
    · subst q
      rw [if_pos rfl]
      constructor
      · rintro ⟨v, e, hm⟩
        cases e
        rcases List.mem_append.mp hm with m | m
        · cases e2 : lkE E t with
          | none => rw [e2] at m; exact absurd m (by simp)
          | some v => rw [e2] at m; exact .inl ⟨v, rfl, m⟩
        · exact .inr ⟨List.mem_singleton.mp m, rfl⟩
      · rintro (⟨v, e, hm⟩ | ⟨rfl, _⟩)
        · exact ⟨_, rfl, by rw [e]; exact List.mem_append_left _ hm⟩
        · exact ⟨_, rfl, List.mem_append_right _ (List.mem_singleton.mpr rfl)⟩
    · rw [if_neg q]
      refine ⟨.inl, ?_⟩
      rintro (z | ⟨_, e⟩)
      · exact z
      · exact absurd e.symm q
  · rw [lkE_put] at e
    by_cases q : t = u
    · rw [if_pos q] at e; cases e; simp
    · rw [if_neg q] at e; exact h.ne u v e
  · rw [lkE_put] at e
    by_cases q : t = u
    · rw [if_pos q] at e; cases e
      rw [List.length_append, List.length_singleton]
      cases e2 : lkE E t with
      | none => show 0 + 1 ≤ _; omega
      | some v => have := h.few t v e2; show v.length + 1 ≤ _; omega
    · rw [if_neg q] at e; have := h.few u v e; omega
theorem PartE.all {ls : List (List Tk)} {E : List (Tk × List Int)} (h : PartE ls ls.length 0 E) (hl : ls.length ≤ 6) : IsE ls E := by
  refine ⟨h.nd, by have := h.len; omega, fun t g => (h.hd t g).trans ?_, h.ne, fun t v e => by have := h.few t v e; omega⟩
  unfold Occ Hd
  constructor
  · rintro (⟨i', _, h2, l, hl', hm⟩ | ⟨_, l, _, hm⟩)
    · exact ⟨i', l, h2, hl', hm⟩
    · simp at hm
  · rintro ⟨i', l, h2, hl', hm⟩
    exact .inl ⟨i', (List.getElem?_eq_some_iff.mp hl').1, h2, l, hl', hm⟩
theorem hsT_get {ls : List (List Tk)} {i : Nat} {t : T} (h : (ls.map tsT)[i]? = some t) : ∃ l, ls[i]? = some l ∧ t = tsT l := by
  rw [List.getElem?_map] at h
  cases e : ls[i]? with
  | none => rw [e] at h; cases h
  | some l => rw [e] at h; cases h; exact ⟨l, rfl, rfl⟩
theorem tsT_get {l : List Tk} {i : Nat} {t : T} (h : (l.map tkT)[i]? = some t) : ∃ k, l[i]? = some k ∧ t = tkT k := by
  rw [List.getElem?_map] at h
  cases e : l[i]? with
  | none => rw [e] at h; cases h
  | some l => rw [e] at h; cases h; exact ⟨l, rfl, rfl⟩
theorem inV_ints {x : Int} : ∀ {xs : List Int}, inV (T.int x).v1 ((xs.map T.int).map T.v1) = decide (x ∈ xs)
  | [] => by simp [inV]
  | y :: xs => by
    have ih : inV (T.int x).v1 ((xs.map T.int).map T.v1) = decide (x ∈ xs) := inV_ints
    unfold inV at ih ⊢
    rw [List.map_cons, List.map_cons, List.any_cons, ih]
    by_cases e : x = y
    · subst e; simp [T.v1, eqV]
    · have : eqV (T.int y).v1 (T.int x).v1 = false := by simp [T.v1, eqV]; exact fun z => e z.symm
      rw [this]
      simp [e]
theorem is1_ints (xs : List Int) : (xs.map T.int).all T.is1 = true := List.all_eq_true.mpr fun t h => by obtain ⟨i, _, rfl⟩ := List.mem_map.mp h; rfl
theorem getD_Li (o : Option (List Int)) : (o.map fun v => Li v).getD (T.lst []) = Li (o.getD []) := by cases o <;> rfl
def W_hearers : FnT := fun ts R => ∃ ls : List (List Tk), ts = [hsT ls] ∧ ls.length ≤ 6 ∧ (∀ l ∈ ls, l.length ≤ 100) ∧ ∀ E, IsE ls E → R 0 (dE E) []
set_option maxHeartbeats 4000000 in
theorem ok_hearers {k : Nat} (G : Gs K mg) : FnOk P w K mg base CX0 (k + 1) G.g_hearers.f G.g_hearers.d ["lists"] (spT K (allSh 1) W_hearers) := by
  refine fnT (k := k + 0) G.g_hearers.F sc_hearers rfl (fun X cdv A outer s H E hX hr => ?_)
  subst hX
  refine ⟨_, (ts_cons (ts_set 1 sc_hearers.nd rfl (.inl rfl) tv_dnewT)
      (ts_cons (ts_for PassesOwn.never rfl (ti_enum (by rfl) G.z_enumerate (tva_cons 0 (tv_var 0) tva_nil)) (tg_tup rfl (tgs_cons (tg_name 2 sc_hearers.nd rfl (.inl rfl)) (tgs_cons (tg_name 3 sc_hearers.nd rfl (.inl rfl)) tgs_nil)) h2_len) (ts_one (ts_for PassesOwn.never rfl (ti_lst (tv_var 3)) (tg_name 4 sc_hearers.nd rfl (.inl rfl)) (ts_cons (ts_set 5 sc_hearers.nd rfl (.inl rfl) (tv_kget 1 (dU hr) (tp_var 4) (tp_lst tpa_nil) ⟨rfl, rfl, rfl, rfl⟩))
      (ts_one (ts_if (tvt_p (tpt_cmp op_notIn_seq opT_notIn (tp_var 2) (tp_var 5) (by rfl))) (ts_one (ts_dput 1 (dU hr) (tv_sh (tp_op op_cat opT_cat (tp_var 5) (tp_lst (tpa_cons (tp_var 2) tpa_nil)))) (tp_var 4))) ts_nil))))))
      (ts_one (ts1_dem [1] (ts_ret (tv_fit 0 (tv_var 1))))))), fun ts R hW hlen => ?_⟩

  obtain ⟨ls, rfl, l6, l100, h⟩ := hW
  unfold hsT
  walk_at "RD"
  refine ⟨fit0, fun i ρ => ∃ E x2 x3 x4 x5, PartE ls i 0 E ∧ ρ = [Ent.ow 0 (hsT ls), Ent.ow 1 (dE E), x2, x3, x4, x5], ⟨[], _, _, _, _, PartE.zero ls, rfl⟩, fun i t ρ hi hI => ?_, fun ρ hI => ?_⟩
  · obtain ⟨E, x2, x3, x4, x5, pe, rfl⟩ := hI
    obtain ⟨u, hu, rfl⟩ := enT_get.mp hi
    obtain ⟨l, hl, rfl⟩ := hsT_get hu
    have lb := l100 l (List.mem_of_getElem? hl)
    unfold tsT
    walk_at "RD"
    refine ⟨fun j ρ => ∃ E x4 x5, PartE ls i j E ∧ ρ = [Ent.ow 0 (hsT ls), Ent.ow 1 (dE E), Ent.ow 0 (.int (i : Nat)), Ent.ow 0 (tsT l), x4, x5], ⟨E, _, _, pe, rfl⟩, fun j t ρ hj hI => ?_, fun ρ hI => ?_⟩
    · obtain ⟨E, x4, x5, pe, rfl⟩ := hI
      obtain ⟨t, ht, rfl⟩ := tsT_get hj
      walk_at "RD"
      rw [getD_Li]
      refine ⟨rfl, rfl, is1_ints _, ?_⟩
      rw [inV_ints]
      refine ifS (fun q => ?_) fun q => ?_
      · have l1 := pe.len
        have i6 : i < ls.length := (List.getElem?_eq_some_iff.mp hl).1
        have jl : j < l.length := (List.getElem?_eq_some_iff.mp ht).1
        have fw : ((lkE E t).getD []).length ≤ 100 * i + j := by
          cases e : lkE E t with
          | none => exact Nat.zero_le _
          | some v => exact pe.few t v e
        refine ⟨?_, fit0, ?_, putE E t ((lkE E t).getD [] ++ [(i : Int)]), Ent.ow 0 (tkT t), Ent.ow 0 (Li ((lkE E t).getD [])), pe.put hl ht, ?_⟩
        · rw [List.length_map]; show _ + 1 ≤ _; omega
        · unfold vsE; rw [List.length_map]; omega
        · have e : ((lkE E t).getD []).map T.int ++ [T.int i] = ((lkE E t).getD [] ++ [(i : Int)]).map T.int := by rw [List.map_append]; rfl
          rw [e]
          have e2 := putT_E t ((lkE E t).getD [] ++ [(i : Int)]) E
          rw [e2]
      · have hm : (i : Int) ∈ (lkE E t).getD [] := by simpa using q
        cases e : lkE E t with
        | none => rw [e] at hm; simp at hm
        | some v =>
          rw [e] at hm
          exact ⟨E, _, _, pe.same hl ht e hm, rfl⟩
    · obtain ⟨E, x4, x5, pe, rfl⟩ := hI
      rw [List.length_map] at pe
      exact ⟨E, _, _, _, _, pe.row hl lb, rfl⟩
  · obtain ⟨E, x2, x3, x4, x5, pe, rfl⟩ := hI
    walk_at "RD"
    have el : (enT (ls.map tsT)).length = ls.length := by unfold enT; rw [List.length_mapIdx, List.length_map]
    rw [el] at pe
    exact ⟨fit0, h E (pe.all l6)⟩
end
end K95
set_option Elab.async false
set_option linter.all false
set_option maxRecDepth 100000
namespace K95
open PySem PySem.Spec PyProof.Rows L2 L2H TL
local macro_rules | `(tactic| walk_at "RD") => `(tactic| simp -dsimp only [↓uSeq, ↓uNext, ↓uFor, ↓uSt, ↓uStV, ↓uAu, ↓uAp, ↓uApMv, ↓uAuN, ↓uAlias, ↓uDem, ↓uBrk, ↓uCnt, ↓uNev, ↓uRet, ↓uRetN, ↓uExp, ↓uExpP, ↓uRaise1, ↓wCallX, ↓uExpX, ↓uRetX, ↓uSetX, ↓uTryE, ↓uForD, ↓uAsgT, ↓wSlT, ↓gCatT, ↓uForV, ↓uForI, ↓uDp, ↓uSt2, ↓uAu2, ↓uAp2, ↓uDemK, ↓wDG1, ↓wDG2, ↓wDisp, ↓vKD, ↓vKG, ↓vKL, ↓vDN, ↓vLend, ↓gDG, ↓gDI, ↓gGet, ↓gLenA, ↓gStrI, ↓gTupl, ↓gDict, ↓iZp3, ↓TL.iRngV, kidT, ↓tKey_int, ↓tKey_str, ↓tKey_kT, ↓tKeyL, ↓tKeys, ↓ownD, kidsOf, ndSet, dput, dlook, noX, rdE, demK, ↓gLtT, ↓iRngD, ↓vSortP, ↓vCat, ↓vCatV, ↓gCat, ↓uSet, ↓uSetR, ↓uIf, ↓wVar, ↓wVarV, ↓wC, ↓w1, ↓w2, ↓wT, asB, ↓wChain, ↓wNil, ↓wCons, ↓wAnd, ↓wOr, ↓wNot, ↓wAndV, ↓wOrV, ↓wNotV, ↓wIf, ↓wCallP, ↓wCallV, ↓wCa, ↓wTup, ↓wLst, ↓oNon, ↓oSom, ↓wSlice, ↓wRev, ↓vP, ↓vSh, ↓vFit, ↓vaNil, ↓vaCons, ↓vLst, ↓vTup, ↓vTup0, ↓vList, ↓vRep, ↓vSlice, ↓cSl, ↓vCallN, ↓v1, ↓vCa, ↓vIx, ↓tP, ↓vAnd, ↓vOr, ↓vNot, ↓vIf, ↓vT, ↓v2, ↓vLc, ↓gI2, ↓gI2c, ↓gLen, ↓gII, ↓gI, ↓gInt1, ↓gRep, ↓gKids, ↓gIn, ↓iLst, ↓TL.iTup, ↓TL.iRng1, ↓TL.iRng2, ↓iEn, ↓iZp, ↓hName, ↓hCons, ↓hNil, ↓hTup, ↓wSl, ↓wIsi, ↓wYes, rho0, iniE, entOf, allSh, List.replicate, List.length_cons, List.length_nil, Nat.reduceAdd, Nat.reduceSub, Nat.reduceLT, Nat.reduceLeDiff, List.cons_append, List.nil_append, List.getElem?_cons_zero, List.getElem?_cons_succ, Option.bind_some, Ent.tr, Ent.own, Ent.put, setE, killA, noAl_ow, noAl_io1, noAl_no, noAl_ro, noAl_al', killJ_cons, killJ_nil0, noRo_ow, noRo_io, noRo_no, noRo_al, mem1, notIn, noRA_ow, noRA_io, noRA_no, noRA_al, Plc, demE, List.foldl_cons, List.foldl_nil, List.map_cons, List.map_nil, List.set_cons_zero, List.set_cons_succ, endsOf, ↓outsOf, Option.map_some, plSet, TL.putAt, T.put, true_and, and_true, lst_set, lst_snoc, lm_set, lm_snoc, shOnly, shE_ow0, shE_ow1, shE_io, shE_no, Option.isSome_some, reduceIte, if_true, if_false, Bool.false_eq_true, Nat.reduceEqDiff, ↓vRev, ↓vPure, frz_cons, frz_nil, frzE, ↓gInD, ↓vSortG, ↓vSortDT, ↓vAndB, ↓vOrB, dE, ↓tsT, pdsT, ↓tKeys_tk, lkT_E, putT_E])
section
variable {P : Program} {w : World} {K : PySem.W.Frag} {mg : Str → Option Value} {base : Heap}
def hrd (E : List (Tk × List Int)) (t : Tk) : List Int := (lkE E t).getD []
theorem IsE.hrd {ls : List (List Tk)} {E : List (Tk × List Int)} (h : IsE ls E) (t : Tk) (g : Int) : g ∈ hrd E t ↔ Hd ls g t := by
  rw [← h.hd t g]
  unfold K95.hrd
  constructor
  · intro m
    cases e : lkE E t with
    | none => rw [e] at m; exact absurd m (by simp)
    | some v => rw [e] at m; exact ⟨v, rfl, m⟩
  · rintro ⟨v, e, m⟩
    rw [e]; exact m
theorem ksE_kt (E : List (Tk × List Int)) : (ksE E).map ktT = (E.map (·.1)).map tkT := by unfold ksE; rw [List.map_map, List.map_map]; rfl
theorem IsE.some {ls : List (List Tk)} {E : List (Tk × List Int)} (h : IsE ls E) {t : Tk} (ht : t ∈ E.map (·.1)) : lkE E t = some (K95.hrd E t) := by
  have z := (mem_lkE t E).mpr ht
  unfold K95.hrd
  cases e : lkE E t with
  | none => rw [e] at z; cases z
  | some v => rfl
/-- the sorted keys -/
theorem keys_sorted {ls : List (List Tk)} {E : List (Tk × List Int)} (h : IsE ls E) {qs : List T} (hp : qs.Perm ((ksE E).map ktT)) (hs : qs.Pairwise leD) :
    ∃ M : List Tk, qs = M.map tkT ∧ M.Nodup ∧ M.Pairwise (fun a b => ¬ ltTk b a) ∧ M.length ≤ 600 ∧ ∀ t, t ∈ M ↔ t ∈ E.map (·.1) := by
  rw [ksE_kt] at hp
  obtain ⟨M, pm, rfl⟩ := perm_map unTk_tk hp
  refine ⟨M, rfl, pm.nodup_iff.mpr h.nd, ?_, by rw [pm.length_eq, List.length_map]; exact h.len, fun t => pm.mem_iff⟩
  exact (List.pairwise_map.mp hs).imp fun {a b} z => (tle_tk a b).mp z
theorem heard_key {ls : List (List Tk)} {E : List (Tk × List Int)} (h : IsE ls E) {t : Tk} {g : Int} (hg : Hd ls g t) : t ∈ E.map (·.1) := by
  obtain ⟨v, e, _⟩ := (h.hd t g).mpr hg
  exact (mem_lkE t E).mp (by rw [e]; rfl)
theorem IsE.key {ls : List (List Tk)} {E : List (Tk × List Int)} (h : IsE ls E) {t : Tk} (ht : t ∈ E.map (·.1)) : ∃ g, Hd ls g t := by
  have e := h.some ht
  have n := h.ne t _ e
  cases e2 : K95.hrd E t with
  | nil => exact absurd e2 n
  | cons g v => exact ⟨g, (h.hrd t g).mp (by rw [e2]; exact List.mem_cons_self)⟩
def bothB (E : List (Tk × List Int)) (t : Tk) : Bool := decide (t.1 ∈ hrd E t) && decide (t.2.1 ∈ hrd E t)
theorem isM_filter {ls : List (List Tk)} {E : List (Tk × List Int)} (h : IsE ls E) {M : List Tk} (hn : M.Nodup) (hp : M.Pairwise (fun a b => ¬ ltTk b a)) (hm : ∀ t, t ∈ M ↔ t ∈ E.map (·.1)) : IsM ls (M.filter (bothB E)) := by
  refine ⟨hn.filter _, hp.filter _, fun t => ?_⟩
  rw [List.mem_filter, hm]
  unfold bothB Both
  rw [Bool.and_eq_true, decide_eq_true_eq, decide_eq_true_eq, h.hrd, h.hrd]
  exact ⟨fun z => z.2, fun z => ⟨heard_key h z.1, z⟩⟩
theorem callS1 {W : FnT} {R : Nat → T → List Ent → Prop} {u : KDep R} {t : T} {ρ : List Ent} (h : W [t] fun n z _ => R n z (killJ [] ρ)) : callAt [.sh] [.tv 0] W R u [t] ρ := by
  have e : (fun n z (outs : List T) => R n z (putL (ups [.sh] [.tv 0] outs) 0 (killJ [] ρ))) = fun n z _ => R n z (killJ [] ρ) := by
    funext n z outs; rw [show ups [.sh] [.tv 0] outs = [] from ups_sh (n := 1), putL_e]
  show W [t] (fun n z (outs : List T) => R n z (putL (ups [.sh] [.tv 0] outs) 0 (killJ [] ρ)))
  rw [e]; exact h
theorem callS2 {W : FnT} {R : Nat → T → List Ent → Prop} {u : KDep R} {t t2 : T} {ρ : List Ent} (h : W [t, t2] fun n z _ => R n z (killJ [] ρ)) : callAt [.sh, .sh] [.tv 0, .tv 0] W R u [t, t2] ρ := by
  have e : (fun n z (outs : List T) => R n z (putL (ups [.sh, .sh] [.tv 0, .tv 0] outs) 0 (killJ [] ρ))) = fun n z _ => R n z (killJ [] ρ) := by
    funext n z outs; rw [show ups [.sh, .sh] [.tv 0, .tv 0] outs = [] from ups_sh (n := 2), putL_e]
  show W [t, t2] (fun n z (outs : List T) => R n z (putL (ups [.sh, .sh] [.tv 0, .tv 0] outs) 0 (killJ [] ρ)))
  rw [e]; exact h
/-- a temporary as first argument -/
theorem callT2 {W : FnT} {R : Nat → T → List Ent → Prop} {u : KDep R} {t t2 : T} {ρ : List Ent} (h : W [t, t2] fun n z _ => R n z (killJ [] ρ)) : callAt [.io 1, .sh] [.tv 1, .tv 0] W R u [t, t2] ρ := by
  have e : (fun n z (outs : List T) => R n z (putL (ups [.io 1, .sh] [.tv 1, .tv 0] outs) 0 (killJ [] ρ))) = fun n z _ => R n z (killJ [] ρ) := by
    funext n z outs
    have e2 : ups [.io 1, .sh] [.tv 1, .tv 0] outs = [] := by cases outs <;> simp [ups]
    rw [e2, putL_e]
  show W [t, t2] (fun n z (outs : List T) => R n z (putL (ups [.io 1, .sh] [.tv 1, .tv 0] outs) 0 (killJ [] ρ)))
  rw [e]; exact h
theorem callT3 {W : FnT} {R : Nat → T → List Ent → Prop} {u : KDep R} {t t2 t3 : T} {ρ : List Ent} (h : W [t, t2, t3] fun n z _ => R n z (killJ [] ρ)) : callAt [.io 1, .sh, .sh] [.tv 1, .tv 0, .tv 0] W R u [t, t2, t3] ρ := by
  have e : (fun n z (outs : List T) => R n z (putL (ups [.io 1, .sh, .sh] [.tv 1, .tv 0, .tv 0] outs) 0 (killJ [] ρ))) = fun n z _ => R n z (killJ [] ρ) := by
    funext n z outs
    have e2 : ups [.io 1, .sh, .sh] [.tv 1, .tv 0, .tv 0] outs = [] := by cases outs <;> simp [ups]
    rw [e2, putL_e]
  show W [t, t2, t3] (fun n z (outs : List T) => R n z (putL (ups [.io 1, .sh, .sh] [.tv 1, .tv 0, .tv 0] outs) 0 (killJ [] ρ)))
  rw [e]; exact h
theorem g40 {t : Tk} {R : T → Prop} : gIx (tkT t) (.int 0) R = R (.int t.1) := rfl
theorem g41 {t : Tk} {R : T → Prop} : gIx (tkT t) (.int 1) R = R (.int t.2.1) := rfl
theorem g42 {t : Tk} {R : T → Prop} : gIx (tkT t) (.int 2) R = R (.int t.2.2.1) := rfl
theorem g43 {t : Tk} {R : T → Prop} : gIx (tkT t) (.int 3) R = R (.int t.2.2.2) := rfl
theorem filt_t {α : Type} {p : α → Bool} {l : List α} {i : Nat} {x : α} (h : l[i]? = some x) (hp : p x = true) : (l.take (i + 1)).filter p = (l.take i).filter p ++ [x] := by
  rw [← take_snoc h, List.filter_append, List.filter_cons_of_pos hp]; rfl
theorem filt_f {α : Type} {p : α → Bool} {l : List α} {i : Nat} {x : α} (h : l[i]? = some x) (hp : ¬ p x = true) : (l.take (i + 1)).filter p = (l.take i).filter p := by
  rw [← take_snoc h, List.filter_append, List.filter_cons_of_neg hp, List.filter_nil, List.append_nil]
theorem filt_len {α : Type} {p : α → Bool} {l : List α} {i : Nat} : ((l.take i).filter p).length ≤ l.length := Nat.le_trans (List.length_filter_le _ _) (by rw [List.length_take]; exact Nat.min_le_right _ _)
theorem dlook_E {E : List (Tk × List Int)} {t : Tk} {v : List Int} (h : lkE E t = some v) : dlook (.dT (ksE E)) (vsE E) (tkT t) = some (some (Li v)) := by
  show (tKeys (tkT t)).map (lkT (ksE E) (vsE E)) = _
  rw [tKeys_tk, Option.map_some, lkT_E, h]
  rfl
def W_matched : FnT := fun ts R => ∃ ls : List (List Tk), ts = [hsT ls] ∧ ls.length ≤ 6 ∧ (∀ l ∈ ls, l.length ≤ 100) ∧ ∀ M, IsM ls M → R 1 (tsT M) []
set_option maxHeartbeats 4000000 in
theorem ok_matched {k : Nat} (G : Gs K mg) : FnOk P w K mg base CX0 (k + 2) G.g_matched.f G.g_matched.d ["lists"] (spT K (allSh 1) W_matched) := by
  refine fnT (k := k + 1) G.g_matched.F sc_matched rfl (fun X cdv A outer s H E hX hr => ?_)
  subst hX
  refine ⟨_, (ts_cons (ts_set 1 sc_matched.nd rfl (.inl rfl) (tv_call (ok_hearers (k := k + 0) G) hr (by rfl) G.g_hearers.g G.g_hearers.F.kp G.g_hearers.b (tca_tv 0 (tv_var 0) tca_nil)))
      (ts_cons (ts_set 2 sc_matched.nd rfl (.inl rfl) (tv_lst 0 tva_nil (by simp) (by decide)))
      (ts_cons (ts_for PassesOwn.never rfl (ti_lst (tv_sortDT rfl (eqU hr) (by rfl) G.z_sorted (tva_cons 0 (tv_var 1) tva_nil))) (tg_name 3 sc_matched.nd rfl (.inl rfl)) (ts_one (ts_if (tvt_p (TPW.pt (tpw_and (tpt_cmp op_in_seq opT_in (tp_ix (tp_var 3) tp_int (fun _ _ => rfl)) (tp_dget (dU hr) (tp_var 1) (tp_var 3)) (by rfl)) (tpw_and1 (tpt_cmp op_in_seq opT_in (tp_ix (tp_var 3) tp_int (fun _ _ => rfl)) (tp_dget (dU hr) (tp_var 1) (tp_var 3)) (by rfl)))))) (ts_one (ts_app 2 (tv_var 3))) ts_nil)))
      (ts_one (ts_ret (tv_var 2)))))), fun ts R hW hlen => ?_⟩

  obtain ⟨ls, rfl, l6, l100, h⟩ := hW
  walk_at "RD"
  refine ⟨fit0, callS1 ⟨_, rfl, l6, l100, fun E he => ?_⟩⟩
  walk_at "RD"
  refine ⟨fit0, by rw [ksE_kt]; exact srt_tk _, fun qs hp hs => ?_⟩
  obtain ⟨M, rfl, hn, hs, hl, hm⟩ := keys_sorted he hp hs
  refine ⟨fun i ρ => ∃ x3, ρ = [Ent.ow 0 (hsT ls), Ent.ow 0 (dE E), Ent.ow 1 (tsT ((M.take i).filter (bothB E))), x3], ⟨_, rfl⟩, fun i t ρ hi hI => ?_, fun ρ hI => ?_⟩
  · obtain ⟨x3, rfl⟩ := hI
    obtain ⟨t, ht, rfl⟩ := tsT_get hi
    have e := he.some ((hm t).mp (List.mem_of_getElem? ht))
    have dl := dlook_E e
    (first | walk_at "RD" | skip); repeat (simp -dsimp only [g40, g41]; first | walk_at "RD" | skip)
    rw [e]
    have e0 : inV (T.int t.1).v1 (((hrd E t).map T.int).map T.v1) = decide (t.1 ∈ hrd E t) := inV_ints
    have e1 : inV (T.int t.2.1).v1 (((hrd E t).map T.int).map T.v1) = decide (t.2.1 ∈ hrd E t) := inV_ints
    have no : ¬ bothB E t = true → (M.take (i + 1)).filter (bothB E) = (M.take i).filter (bothB E) := fun q => filt_f ht q
    refine ⟨rfl, is1_ints _, ?_⟩
    rw [e0]
    refine ifS (fun q => ⟨rfl, is1_ints _, ?_⟩) fun q => ⟨_, by rw [no (fun z => q (by unfold bothB at z; exact (Bool.and_eq_true _ _ ▸ z).1))]⟩
    rw [e1]
    refine ifS (fun q1 => ?_) fun q1 => ⟨_, by rw [no (fun z => q1 (by unfold bothB at z; exact (Bool.and_eq_true _ _ ▸ z).2))]⟩
    have z : (M.take (i + 1)).filter (bothB E) = (M.take i).filter (bothB E) ++ [t] := filt_t ht (by unfold bothB; rw [Bool.and_eq_true]; exact ⟨q, q1⟩)
    rw [z, List.map_append]
    have := filt_len (p := bothB E) (l := M) (i := i)
    exact ⟨fit0, by rw [List.length_map]; omega, _, rfl⟩
  · obtain ⟨x3, rfl⟩ := hI
    have hM := isM_filter he hn hs hm
    rw [List.length_map, List.take_length]
    walk_at "RD"
    exact h _ hM
end
end K95
set_option Elab.async false
set_option linter.all false
set_option maxRecDepth 100000
namespace K95
open PySem PySem.Spec PyProof.Rows L2 L2H TL
local macro_rules | `(tactic| walk_at "RD") => `(tactic| simp -dsimp only [↓uSeq, ↓uNext, ↓uFor, ↓uSt, ↓uStV, ↓uAu, ↓uAp, ↓uApMv, ↓uAuN, ↓uAlias, ↓uDem, ↓uBrk, ↓uCnt, ↓uNev, ↓uRet, ↓uRetN, ↓uExp, ↓uExpP, ↓uRaise1, ↓wCallX, ↓uExpX, ↓uRetX, ↓uSetX, ↓uTryE, ↓uForD, ↓uAsgT, ↓wSlT, ↓gCatT, ↓uForV, ↓uForI, ↓uDp, ↓uSt2, ↓uAu2, ↓uAp2, ↓uDemK, ↓wDG1, ↓wDG2, ↓wDisp, ↓vKD, ↓vKG, ↓vKL, ↓vDN, ↓vLend, ↓gDG, ↓gDI, ↓gGet, ↓gLenA, ↓gStrI, ↓gTupl, ↓gDict, ↓iZp3, ↓TL.iRngV, kidT, ↓tKey_int, ↓tKey_str, ↓tKey_kT, ↓tKeyL, ↓tKeys, ↓ownD, kidsOf, ndSet, dput, dlook, noX, rdE, demK, ↓gLtT, ↓iRngD, ↓vSortP, ↓vCat, ↓vCatV, ↓gCat, ↓uSet, ↓uSetR, ↓uIf, ↓wVar, ↓wVarV, ↓wC, ↓w1, ↓w2, ↓wT, asB, ↓wChain, ↓wNil, ↓wCons, ↓wAnd, ↓wOr, ↓wNot, ↓wAndV, ↓wOrV, ↓wNotV, ↓wIf, ↓wCallP, ↓wCallV, ↓wCa, ↓wTup, ↓wLst, ↓oNon, ↓oSom, ↓wSlice, ↓wRev, ↓vP, ↓vSh, ↓vFit, ↓vaNil, ↓vaCons, ↓vLst, ↓vTup, ↓vTup0, ↓vList, ↓vRep, ↓vSlice, ↓cSl, ↓vCallN, ↓v1, ↓vCa, ↓vIx, ↓tP, ↓vAnd, ↓vOr, ↓vNot, ↓vIf, ↓vT, ↓v2, ↓vLc, ↓gI2, ↓gI2c, ↓gLen, ↓gII, ↓gI, ↓gInt1, ↓gRep, ↓gKids, ↓gIn, ↓iLst, ↓TL.iTup, ↓TL.iRng1, ↓TL.iRng2, ↓iEn, ↓iZp, ↓hName, ↓hCons, ↓hNil, ↓hTup, ↓wSl, ↓wIsi, ↓wYes, rho0, iniE, entOf, allSh, List.replicate, List.length_cons, List.length_nil, Nat.reduceAdd, Nat.reduceSub, Nat.reduceLT, Nat.reduceLeDiff, List.cons_append, List.nil_append, List.getElem?_cons_zero, List.getElem?_cons_succ, Option.bind_some, Ent.tr, Ent.own, Ent.put, setE, killA, noAl_ow, noAl_io1, noAl_no, noAl_ro, noAl_al', killJ_cons, killJ_nil0, noRo_ow, noRo_io, noRo_no, noRo_al, mem1, notIn, noRA_ow, noRA_io, noRA_no, noRA_al, Plc, demE, List.foldl_cons, List.foldl_nil, List.map_cons, List.map_nil, List.set_cons_zero, List.set_cons_succ, endsOf, ↓outsOf, Option.map_some, plSet, TL.putAt, T.put, true_and, and_true, lst_set, lst_snoc, lm_set, lm_snoc, shOnly, shE_ow0, shE_ow1, shE_io, shE_no, Option.isSome_some, reduceIte, if_true, if_false, Bool.false_eq_true, Nat.reduceEqDiff, ↓vRev, ↓vPure, frz_cons, frz_nil, frzE, ↓gInD, ↓vSortG, ↓vSortDT, ↓vAndB, ↓vOrB, dE, ↓tsT, pdsT, ↓tKeys_tk, lkT_E, putT_E])
section
variable {P : Program} {w : World} {K : PySem.W.Frag} {mg : Str → Option Value} {base : Heap}
/-- the houses of a ticket that have not heard of it -/
def unh (E : List (Tk × List Int)) (t : Tk) : List Int := [t.1, t.2.1].filter fun g => !decide (g ∈ hrd E t)
def hps (E : List (Tk × List Int)) (M : List Tk) : List Pd := M.flatMap fun t => (unh E t).map fun g => (t, g)
theorem OkL.hd {ls : List (List Tk)} (ok : OkL ls) {g : Int} {t : Tk} (h : Hd ls g t) : (g = t.1 ∨ g = t.2.1) ∧ t.1 ≠ t.2.1 := by
  obtain ⟨i, l, rfl, hl, hm⟩ := h
  obtain ⟨_, z⟩ := ok.each i l hl
  obtain ⟨z1, _, _, z4⟩ := z t hm
  exact ⟨z4.imp Eq.symm Eq.symm, z1⟩
theorem strict {M : List Tk} (hn : M.Nodup) (hp : M.Pairwise (fun a b => ¬ ltTk b a)) : M.Pairwise ltTk := by
  have z := hn.and hp
  refine z.imp fun {a b} h => ?_
  by_cases q : ltTk a b
  · exact q
  · exact absurd (tk_anti q h.2) h.1
theorem ltPd_irr (p : Pd) : ¬ ltPd p p := by
  rintro (h | ⟨_, h⟩)
  · exact ltTk_irr _ h
  · omega
theorem ltPd_asymm {p q : Pd} (h : ltPd p q) : ¬ ltPd q p := by
  rintro (g | ⟨e, g⟩)
  · rcases h with h | ⟨e, h⟩
    · exact ltTk_irr _ (ltTk_trans h g)
    · rw [e] at g; exact ltTk_irr _ g
  · rcases h with h | ⟨e2, h⟩
    · rw [e] at h; exact ltTk_irr _ h
    · omega
theorem isH_hps {ls : List (List Tk)} (ok : OkL ls) {E : List (Tk × List Int)} (h : IsE ls E) {M : List Tk} (hn : M.Nodup) (hp : M.Pairwise (fun a b => ¬ ltTk b a)) (hm : ∀ t, t ∈ M ↔ t ∈ E.map (·.1)) : IsH ls (hps E M) := by
  have pw : (hps E M).Pairwise ltPd := by
    unfold hps
    rw [List.pairwise_flatMap]
    refine ⟨fun t ht => ?_, ?_⟩
    · obtain ⟨g, hg⟩ := h.key ((hm t).mp ht)
      obtain ⟨hg2, _⟩ := ok.hd hg
      have hg3 := (h.hrd t g).mpr hg
      unfold unh
      rcases hg2 with e | e
      · rw [e] at hg3
        rw [List.filter_cons_of_neg (by simpa using hg3)]
        refine List.pairwise_map.mpr ?_
        by_cases q : t.2.1 ∈ hrd E t <;> simp [q]
      · rw [e] at hg3
        by_cases q : t.1 ∈ hrd E t <;> simp [q, hg3]
    · refine (strict hn hp).imp fun {a b} hab x hx y hy => ?_
      obtain ⟨_, _, rfl⟩ := List.mem_map.mp hx
      obtain ⟨_, _, rfl⟩ := List.mem_map.mp hy
      exact .inl hab
  refine ⟨pw.imp fun {a b} z e => ?_, pw.imp fun {a b} z => ltPd_asymm z, fun p => ?_⟩
  · subst e; exact ltPd_irr _ z
  · unfold hps Half
    rw [List.mem_flatMap]
    constructor
    · rintro ⟨t, ht, hx⟩
      obtain ⟨g, hg, rfl⟩ := List.mem_map.mp hx
      unfold unh at hg
      obtain ⟨g1, g2⟩ := List.mem_filter.mp hg
      have g3 : ¬ Hd ls g t := fun z => by
        have := (h.hrd t g).mpr z
        simp [this] at g2
      obtain ⟨g', hg'⟩ := h.key ((hm t).mp ht)
      obtain ⟨e', _⟩ := ok.hd hg'
      simp only [List.mem_cons, List.not_mem_nil, or_false] at g1
      rcases g1 with rfl | rfl
      · rcases e' with rfl | rfl
        · exact absurd hg' g3
        · exact .inl ⟨rfl, g3, hg'⟩
      · rcases e' with rfl | rfl
        · exact .inr ⟨rfl, g3, hg'⟩
        · exact absurd hg' g3
    · obtain ⟨t, g⟩ := p
      rintro (⟨e, g1, g2⟩ | ⟨e, g1, g2⟩)
      · have e : g = t.1 := e
        subst e
        refine ⟨t, (hm t).mpr (heard_key h g2), List.mem_map.mpr ⟨t.1, List.mem_filter.mpr ⟨by simp, ?_⟩, rfl⟩⟩
        have : ¬ t.1 ∈ hrd E t := fun z => g1 ((h.hrd t _).mp z)
        simp [this]
      · have e : g = t.2.1 := e
        subst e
        refine ⟨t, (hm t).mpr (heard_key h g2), List.mem_map.mpr ⟨t.2.1, List.mem_filter.mpr ⟨by simp, ?_⟩, rfl⟩⟩
        have : ¬ t.2.1 ∈ hrd E t := fun z => g1 ((h.hrd t _).mp z)
        simp [this]
theorem hps_step {E : List (Tk × List Int)} {M : List Tk} {i : Nat} {t : Tk} (ht : M[i]? = some t) : hps E (M.take (i + 1)) = hps E (M.take i) ++ (unh E t).map fun g => (t, g) := by
  unfold hps
  rw [← take_snoc ht, List.flatMap_append]
  simp
theorem unh_len (E : List (Tk × List Int)) (t : Tk) : (unh E t).length ≤ 2 := List.length_filter_le _ _
theorem hps_len (E : List (Tk × List Int)) : ∀ M, (hps E M).length ≤ 2 * M.length
  | [] => Nat.le_refl _
  | t :: M => by
    have z := hps_len E M
    have z2 := unh_len E t
    show ((t :: M).flatMap fun t => (unh E t).map fun g => (t, g)).length ≤ _
    rw [List.flatMap_cons, List.length_append, List.length_map, List.length_cons]
    have : (List.flatMap (fun t => (unh E t).map fun g => (t, g)) M).length ≤ 2 * M.length := z
    omega
def W_half_known : FnT := fun ts R => ∃ ls : List (List Tk), ts = [hsT ls] ∧ OkL ls ∧ ∀ M, IsH ls M → R 1 (pdsT M) []
theorem OkL.l100 {ls : List (List Tk)} (ok : OkL ls) : ∀ l ∈ ls, l.length ≤ 100 := fun l hl => by
  obtain ⟨i, hi⟩ := List.mem_iff_getElem?.mp hl
  exact (ok.each i l hi).1
set_option maxHeartbeats 4000000 in
theorem ok_half_known {k : Nat} (G : Gs K mg) : FnOk P w K mg base CX0 (k + 2) G.g_half_known.f G.g_half_known.d ["lists"] (spT K (allSh 1) W_half_known) := by
  refine fnT (k := k + 1) G.g_half_known.F sc_half_known rfl (fun X cdv A outer s H E hX hr => ?_)
  subst hX
  refine ⟨_, (ts_cons (ts_set 1 sc_half_known.nd rfl (.inl rfl) (tv_call (ok_hearers (k := k + 0) G) hr (by rfl) G.g_hearers.g G.g_hearers.F.kp G.g_hearers.b (tca_tv 0 (tv_var 0) tca_nil)))
      (ts_cons (ts_set 2 sc_half_known.nd rfl (.inl rfl) (tv_lst 0 tva_nil (by simp) (by decide)))
      (ts_cons (ts_for PassesOwn.never rfl (ti_lst (tv_sortDT rfl (eqU hr) (by rfl) G.z_sorted (tva_cons 0 (tv_var 1) tva_nil))) (tg_name 3 sc_half_known.nd rfl (.inl rfl)) (ts_one (ts_for PassesOwn.never rfl (ti_tup (tv_sh (tp_slT (tp_var 3) tpo_none (tpo_some tp_int)))) (tg_name 4 sc_half_known.nd rfl (.inl rfl)) (ts_one (ts_if (tvt_p (tpt_cmp op_notIn_seq opT_notIn (tp_var 4) (tp_dget (dU hr) (tp_var 1) (tp_var 3)) (by rfl))) (ts_one (ts_app 2 (tv_sh (tp_tup (tpa_cons (tp_var 3) (tpa_cons (tp_var 4) tpa_nil)))))) ts_nil)))))
      (ts_one (ts_ret (tv_var 2)))))), fun ts R hW hlen => ?_⟩

  obtain ⟨ls, rfl, ok, h⟩ := hW
  walk_at "RD"
  refine ⟨fit0, callS1 ⟨_, rfl, ok.len, ok.l100, fun E he => ?_⟩⟩
  walk_at "RD"
  refine ⟨fit0, by rw [ksE_kt]; exact srt_tk _, fun qs hp hs => ?_⟩
  obtain ⟨M, rfl, hn, hs, hl, hm⟩ := keys_sorted he hp hs
  refine ⟨fun i ρ => ∃ x3 x4, ρ = [Ent.ow 0 (hsT ls), Ent.ow 0 (dE E), Ent.ow 1 (pdsT (hps E (M.take i))), x3, x4], ⟨_, _, rfl⟩, fun i t ρ hi hI => ?_, fun ρ hI => ?_⟩
  · obtain ⟨x3, x4, rfl⟩ := hI
    obtain ⟨t, ht, rfl⟩ := tsT_get hi
    have e := he.some ((hm t).mp (List.mem_of_getElem? ht))
    have dl := dlook_E e
    have ml : (M.take i).length ≤ 600 := by rw [List.length_take]; omega
    have hl2 := hps_len E (M.take i)
    walk_at "RD"
    refine ⟨fun j ρ => ∃ x4 ps, ps = hps E (M.take i) ++ (([t.1, t.2.1].take j).filter fun g => !decide (g ∈ hrd E t)).map (fun g => (t, g)) ∧ ρ = [Ent.ow 0 (hsT ls), Ent.ow 0 (dE E), Ent.ow 1 (pdsT ps), Ent.ow 0 (tkT t), x4], ⟨_, _, ?_, rfl⟩, fun j u ρ hj hI => ?_, fun ρ hI => ?_⟩
    · rw [List.take_zero, List.filter_nil, List.map_nil, List.append_nil]
    · obtain ⟨x4, ps, hps, rfl⟩ := hI
      obtain ⟨g, hg, rfl⟩ : ∃ g, [t.1, t.2.1][j]? = some g ∧ u = .int g := by
        have e : cutT [T.int t.1, .int t.2.1, .int t.2.2.1, .int t.2.2.2] none (some 2) = [T.int t.1, .int t.2.1] := rfl
        match j, hj with
        | 0, hj => cases hj; exact ⟨_, rfl, rfl⟩
        | 1, hj => cases hj; exact ⟨_, rfl, rfl⟩
        | _ + 2, hj => cases hj
      walk_at "RD"
      rw [e]
      refine ⟨rfl, is1_ints _, ?_⟩
      rw [inV_ints]
      refine ifS (fun q => ⟨fit0, ?_, _, ps ++ [(t, g)], ?_, by rw [List.map_append]; rfl⟩) fun q => ⟨_, ps, ?_, rfl⟩
      · have h3 : ps.length ≤ 1202 := by
          rw [hps, List.length_append, List.length_map]
          have := List.length_filter_le (fun g => !decide (g ∈ hrd E t)) ([t.1, t.2.1].take j)
          have : ([t.1, t.2.1].take j).length ≤ 2 := by rw [List.length_take]; exact Nat.min_le_right _ _
          omega
        rw [List.length_map]; omega
      · rw [filt_t hg (p := fun g => !decide (g ∈ hrd E t)) (by simpa using q), List.map_append, hps, List.append_assoc]; rfl
      · rw [filt_f hg (p := fun g => !decide (g ∈ hrd E t)) (by simpa using q)]; exact hps
    · obtain ⟨x4, ps, hps, rfl⟩ := hI
      have e2 : ps = K95.hps E (M.take (i + 1)) := by
        rw [hps_step ht, hps]
        rfl
      rw [e2]
      exact ⟨_, _, rfl⟩
  · obtain ⟨x3, x4, rfl⟩ := hI
    have hM := isH_hps ok he hn hs hm
    rw [List.length_map, List.take_length]
    walk_at "RD"
    exact h _ hM
end
end K95
set_option Elab.async false
set_option linter.all false
set_option maxRecDepth 100000
namespace K95
open PySem PySem.Spec PyProof.Rows L2 L2H TL
local macro_rules | `(tactic| walk_at "RD") => `(tactic| simp -dsimp only [↓uSeq, ↓uNext, ↓uFor, ↓uSt, ↓uStV, ↓uAu, ↓uAp, ↓uApMv, ↓uAuN, ↓uAlias, ↓uDem, ↓uBrk, ↓uCnt, ↓uNev, ↓uRet, ↓uRetN, ↓uExp, ↓uExpP, ↓uRaise1, ↓wCallX, ↓uExpX, ↓uRetX, ↓uSetX, ↓uTryE, ↓uForD, ↓uAsgT, ↓wSlT, ↓gCatT, ↓uForV, ↓uForI, ↓uDp, ↓uSt2, ↓uAu2, ↓uAp2, ↓uDemK, ↓wDG1, ↓wDG2, ↓wDisp, ↓vKD, ↓vKG, ↓vKL, ↓vDN, ↓vLend, ↓gDG, ↓gDI, ↓gGet, ↓gLenA, ↓gStrI, ↓gTupl, ↓gDict, ↓iZp3, ↓TL.iRngV, kidT, ↓tKey_int, ↓tKey_str, ↓tKey_kT, ↓tKeyL, ↓tKeys, ↓ownD, kidsOf, ndSet, dput, dlook, noX, rdE, demK, ↓gLtT, ↓iRngD, ↓vSortP, ↓vCat, ↓vCatV, ↓gCat, ↓uSet, ↓uSetR, ↓uIf, ↓wVar, ↓wVarV, ↓wC, ↓w1, ↓w2, ↓wT, asB, ↓wChain, ↓wNil, ↓wCons, ↓wAnd, ↓wOr, ↓wNot, ↓wAndV, ↓wOrV, ↓wNotV, ↓wIf, ↓wCallP, ↓wCallV, ↓wCa, ↓wTup, ↓wLst, ↓oNon, ↓oSom, ↓wSlice, ↓wRev, ↓vP, ↓vSh, ↓vFit, ↓vaNil, ↓vaCons, ↓vLst, ↓vTup, ↓vTup0, ↓vList, ↓vRep, ↓vSlice, ↓cSl, ↓vCallN, ↓v1, ↓vCa, ↓vIx, ↓tP, ↓vAnd, ↓vOr, ↓vNot, ↓vIf, ↓vT, ↓v2, ↓vLc, ↓gI2, ↓gI2c, ↓gLen, ↓gII, ↓gI, ↓gInt1, ↓gRep, ↓gKids, ↓gIn, ↓iLst, ↓TL.iTup, ↓TL.iRng1, ↓TL.iRng2, ↓iEn, ↓iZp, ↓hName, ↓hCons, ↓hNil, ↓hTup, ↓wSl, ↓wIsi, ↓wYes, rho0, iniE, entOf, allSh, List.replicate, List.length_cons, List.length_nil, Nat.reduceAdd, Nat.reduceSub, Nat.reduceLT, Nat.reduceLeDiff, List.cons_append, List.nil_append, List.getElem?_cons_zero, List.getElem?_cons_succ, Option.bind_some, Ent.tr, Ent.own, Ent.put, setE, killA, noAl_ow, noAl_io1, noAl_no, noAl_ro, noAl_al', killJ_cons, killJ_nil0, noRo_ow, noRo_io, noRo_no, noRo_al, mem1, notIn, noRA_ow, noRA_io, noRA_no, noRA_al, Plc, demE, List.foldl_cons, List.foldl_nil, List.map_cons, List.map_nil, List.set_cons_zero, List.set_cons_succ, endsOf, ↓outsOf, Option.map_some, plSet, TL.putAt, T.put, true_and, and_true, lst_set, lst_snoc, lm_set, lm_snoc, shOnly, shE_ow0, shE_ow1, shE_io, shE_no, Option.isSome_some, reduceIte, if_true, if_false, Bool.false_eq_true, Nat.reduceEqDiff, ↓vRev, ↓vPure, frz_cons, frz_nil, frzE, ↓gInD, ↓vSortG, ↓vSortDT, ↓vAndB, ↓vOrB, dE, ↓tsT, pdsT, ↓tKeys_tk, lkT_E, putT_E])
section
variable {P : Program} {w : World} {K : PySem.W.Frag} {mg : Str → Option Value} {base : Heap}
/-! debts -/
def addD (m : List (List Int)) (t : Tk) : List (List Int) := m.set t.1.toNat ((m.getD t.1.toNat []).set t.2.1.toNat ((m.getD t.1.toNat []).getD t.2.1.toNat 0 + t.2.2.1))
def zeroM (n : Nat) : List (List Int) := List.replicate n (List.replicate n 0)
def debtM (n : Nat) (ts : List Tk) : List (List Int) := ts.foldl addD (zeroM n)
structure Sq (n : Nat) (m : List (List Int)) : Prop where
  len : m.length = n
  row : ∀ r ∈ m, r.length = n
theorem Sq.at {n : Nat} {m : List (List Int)} (s : Sq n m) {i : Nat} (h : i < n) : m[i]? = some (m.getD i []) ∧ (m.getD i []).length = n := by
  have e : m[i]? = some (m.getD i []) := by rw [List.getD_eq_getElem?_getD, List.getElem?_eq_getElem (by rw [s.len]; exact h)]; rfl
  exact ⟨e, s.row _ (List.mem_of_getElem? e)⟩
theorem Sq.set {n : Nat} {m : List (List Int)} (s : Sq n m) {i : Nat} {r : List Int} (h : r.length = n) : Sq n (m.set i r) :=
  ⟨by rw [List.length_set]; exact s.len, fun q hq => by
    rcases List.mem_or_eq_of_mem_set hq with z | z
    · exact s.row q z
    · rw [z]; exact h⟩
theorem Sq.zero (n : Nat) : Sq n (zeroM n) := ⟨by simp [zeroM], fun r hr => by rw [(List.mem_replicate.mp hr).2]; simp⟩
/-- tickets between the houses -/
def InR (n : Nat) (ts : List Tk) : Prop := ∀ t ∈ ts, (0 ≤ t.1 ∧ t.1 < n) ∧ (0 ≤ t.2.1 ∧ t.2.1 < n)
theorem Sq.add {n : Nat} {m : List (List Int)} (s : Sq n m) {t : Tk} (h : (0 ≤ t.1 ∧ t.1 < n) ∧ (0 ≤ t.2.1 ∧ t.2.1 < n)) : Sq n (addD m t) := s.set (by rw [List.length_set]; exact (s.at (by omega)).2)
theorem Sq.debt {n : Nat} {ts : List Tk} (h : InR n ts) : Sq n (debtM n ts) := by
  have : ∀ (ts : List Tk) (m : List (List Int)), Sq n m → InR n ts → Sq n (ts.foldl addD m) := by
    intro ts
    induction ts with
    | nil => exact fun m s _ => s
    | cons t ts ih => exact fun m s h => ih _ (s.add (h t List.mem_cons_self)) fun u hu => h u (List.mem_cons_of_mem _ hu)
  exact this ts _ (Sq.zero n) h
theorem debt_step {n : Nat} {ts : List Tk} {i : Nat} {t : Tk} (h : ts[i]? = some t) : debtM n (ts.take (i + 1)) = addD (debtM n (ts.take i)) t := by
  unfold debtM
  rw [← take_snoc h, List.foldl_append]; rfl
theorem InR.take {n : Nat} {ts : List Tk} (h : InR n ts) (i : Nat) : InR n (ts.take i) := fun t ht => h t (List.mem_of_mem_take ht)
/-- the first entry above 40 -/
def over (m : List (List Int)) : Option Int := m.flatten.find? fun c => decide (40 < c)
def LmR (n : Nat) : T := .lst (List.replicate n (.lst (List.replicate n (.int 0))))
theorem seq_isE {X : Cx} (hK : X.K = K) {i : Nat} {cv : Value} {u1 u2 : TEnds → List Ent → Prop} {De : TEnds} {ρ : List Ent} {a C dd : Addr} {fs : List (Str × V)} {b : Bool} (h : (ρ[i]?.bind Ent.tr) = some (.exc a C dd fs)) (hp : PinAt X a C dd) (hc : ExcC K C)
    (hk : PySem.W.kitOne K (.ref C) cv = some b) (hR : if b = true then u1 { De with nx := u2 De } ρ else u2 De ρ) : uSeq (uIf (tP (wT (wIsE X i cv))) u1 uNext) u2 De ρ := by
  subst hK
  refine ⟨a, C, dd, fs, b, h, hp, hc, hk, ?_⟩
  cases b with
  | true => exact hR
  | false => exact hR
theorem seq_notE {X : Cx} (hK : X.K = K) {i : Nat} {cv : Value} {u1 u2 : TEnds → List Ent → Prop} {De : TEnds} {ρ : List Ent} {a C dd : Addr} {fs : List (Str × V)} (h : (ρ[i]?.bind Ent.tr) = some (.exc a C dd fs)) (hp : PinAt X a C dd) (hc : ExcC K C)
    (hk : PySem.W.kitOne K (.ref C) cv = some true) (hR : u2 De ρ) : uSeq (uIf (tP (wNot (wT (wIsE X i cv)))) u1 uNext) u2 De ρ := by
  subst hK
  exact ⟨a, C, dd, fs, true, h, hp, hc, hk, hR⟩
/-- told.append((name, e.f)) -/
theorem app_fldE {X : Cx} (hK : X.K = K) {f nm : Str} {De : TEnds} {a C dd : Addr} {fs : List (Str × V)} {t : T} (hp : PinAt X a C dd) (xf : XfC K C) (no : PySem.W.findIn K (.ref C) f = some none) (hl : fs.lookup f = some t.v1) (h1 : t.is1 = true)
    (h : De.nx [.ow 0 (.exc a C dd fs), .ow 1 (.lst [.tup [.str nm, t]])]) : uAp 1 (vSh (wTup (wCons (wC (.str nm)) (wCons (wFldE X 0 f) wNil)))) De [.ow 0 (.exc a C dd fs), .ow 1 (.lst [])] := by
  subst hK
  refine ⟨rfl, a, C, dd, fs, t.v1, rfl, hp, xf, no, hl, flat1_v1 h1, ?_⟩
  rw [T.of_v1 h1]
  exact ⟨(by decide : 2 ≤ 1000), .inl (Nat.zero_le _), (by decide : 0 < 1000000), h⟩
theorem zeros_flat {n : Nat} : (List.replicate n [T.int 0]).flatten = (List.replicate n (0 : Int)).map T.int := by
  induction n with
  | zero => rfl
  | succ n ih => rw [List.replicate_succ, List.flatten_cons, ih]; rfl
def W__law_error (G : Gs K mg) : FnW := fun x R => ∃ t : T, x = ⟨G.x_TooMuch.C, [("coins", t.v1)]⟩ ∧ t.is1 = true ∧ R 2 (.tup [.str "refused", .lst [.tup [.str "TooMuch", t]]])
theorem ok__law_error {k : Nat} (G : Gs K mg) : FnE P w K mg base (k + 1) G.g__law_error.f G.g__law_error.d ["e"] (spE K (W__law_error G)) := by
  refine fnTE (k := k + 0) G.g__law_error.F sc__law_error (fun X p cdv A outer s H E hX hr => ?_)
  subst hX
  refine ⟨_, (ts_cons (ts_set 1 sc__law_error.nd rfl (.inl rfl) (tv_lst 0 tva_nil (by simp) (by decide)))
      (ts_cons (ts_if (tvt_p (tpt_val (tp_isE (v := .ref G.a_BadNumber) (cv := .ref G.a_BadNumber) 0 (fun _ r => r) (by rfl) G.z_isinstance (by rfl) (by first | exact Or.inl rfl | exact Or.inr (Or.inl rfl) | exact Or.inr (Or.inr rfl)) (pe_glob (v := .ref G.a_BadNumber) (by rfl) G.ga_BadNumber rfl)))) (ts_one (ts_app 1 (tv_sh (tp_tup (tpa_cons tp_str (tpa_cons (tp_fldE 0 (by rfl) (by first | exact Or.inl rfl | exact Or.inr (Or.inl rfl) | exact Or.inr (Or.inr rfl))) tpa_nil)))))) ts_nil)
      (ts_cons (ts_if (tvt_p (tpt_val (tp_isE (v := .ref G.a_BadDay) (cv := .ref G.a_BadDay) 0 (fun _ r => r) (by rfl) G.z_isinstance (by rfl) (by first | exact Or.inl rfl | exact Or.inr (Or.inl rfl) | exact Or.inr (Or.inr rfl)) (pe_glob (v := .ref G.a_BadDay) (by rfl) G.ga_BadDay rfl)))) (ts_one (ts_app 1 (tv_sh (tp_tup (tpa_cons tp_str (tpa_cons (tp_fldE 0 (by rfl) (by first | exact Or.inl rfl | exact Or.inr (Or.inl rfl) | exact Or.inr (Or.inr rfl))) tpa_nil)))))) ts_nil)
      (ts_cons (ts_if (tvt_p (tpt_val (tp_isE (v := .ref G.a_NoName) (cv := .ref G.a_NoName) 0 (fun _ r => r) (by rfl) G.z_isinstance (by rfl) (by first | exact Or.inl rfl | exact Or.inr (Or.inl rfl) | exact Or.inr (Or.inr rfl)) (pe_glob (v := .ref G.a_NoName) (by rfl) G.ga_NoName rfl)))) (ts_one (ts_app 1 (tv_sh (tp_tup (tpa_cons tp_str (tpa_cons (tp_fldE 0 (by rfl) (by first | exact Or.inl rfl | exact Or.inr (Or.inl rfl) | exact Or.inr (Or.inr rfl))) tpa_nil)))))) ts_nil)
      (ts_cons (ts_if (tvt_p (tpt_val (tp_isE (v := .ref G.a_Clash) (cv := .ref G.a_Clash) 0 (fun _ r => r) (by rfl) G.z_isinstance (by rfl) (by first | exact Or.inl rfl | exact Or.inr (Or.inl rfl) | exact Or.inr (Or.inr rfl)) (pe_glob (v := .ref G.a_Clash) (by rfl) G.ga_Clash rfl)))) (ts_one (ts_app 1 (tv_sh (tp_tup (tpa_cons tp_str (tpa_cons (tp_fldE 0 (by rfl) (by first | exact Or.inl rfl | exact Or.inr (Or.inl rfl) | exact Or.inr (Or.inr rfl))) (tpa_cons (tp_fldE 0 (by rfl) (by first | exact Or.inl rfl | exact Or.inr (Or.inl rfl) | exact Or.inr (Or.inr rfl))) tpa_nil))))))) ts_nil)
      (ts_cons (ts_if (tvt_p (tpt_val (tp_isE (v := .ref G.a_Full) (cv := .ref G.a_Full) 0 (fun _ r => r) (by rfl) G.z_isinstance (by rfl) (by first | exact Or.inl rfl | exact Or.inr (Or.inl rfl) | exact Or.inr (Or.inr rfl)) (pe_glob (v := .ref G.a_Full) (by rfl) G.ga_Full rfl)))) (ts_one (ts_app 1 (tv_sh (tp_tup (tpa_cons tp_str (tpa_cons (tp_fldE 0 (by rfl) (by first | exact Or.inl rfl | exact Or.inr (Or.inl rfl) | exact Or.inr (Or.inr rfl))) tpa_nil)))))) ts_nil)
      (ts_cons (ts_if (tvt_p (tpt_val (tp_isE (v := .ref G.a_Refused) (cv := .ref G.a_Refused) 0 (fun _ r => r) (by rfl) G.z_isinstance (by rfl) (by first | exact Or.inl rfl | exact Or.inr (Or.inl rfl) | exact Or.inr (Or.inr rfl)) (pe_glob (v := .ref G.a_Refused) (by rfl) G.ga_Refused rfl)))) (ts_one (ts_app 1 (tv_sh (tp_tup (tpa_cons tp_str (tpa_cons (tp_fldE 0 (by rfl) (by first | exact Or.inl rfl | exact Or.inr (Or.inl rfl) | exact Or.inr (Or.inr rfl))) (tpa_cons (tp_fldE 0 (by rfl) (by first | exact Or.inl rfl | exact Or.inr (Or.inl rfl) | exact Or.inr (Or.inr rfl))) tpa_nil))))))) ts_nil)
      (ts_cons (ts_if (tvt_p (tpt_val (tp_isE (v := .ref G.a_TooFar) (cv := .ref G.a_TooFar) 0 (fun _ r => r) (by rfl) G.z_isinstance (by rfl) (by first | exact Or.inl rfl | exact Or.inr (Or.inl rfl) | exact Or.inr (Or.inr rfl)) (pe_glob (v := .ref G.a_TooFar) (by rfl) G.ga_TooFar rfl)))) (ts_one (ts_app 1 (tv_sh (tp_tup (tpa_cons tp_str (tpa_cons (tp_fldE 0 (by rfl) (by first | exact Or.inl rfl | exact Or.inr (Or.inl rfl) | exact Or.inr (Or.inr rfl))) tpa_nil)))))) ts_nil)
      (ts_cons (ts_if (tvt_p (tpt_val (tp_isE (v := .ref G.a_TooLarge) (cv := .ref G.a_TooLarge) 0 (fun _ r => r) (by rfl) G.z_isinstance (by rfl) (by first | exact Or.inl rfl | exact Or.inr (Or.inl rfl) | exact Or.inr (Or.inr rfl)) (pe_glob (v := .ref G.a_TooLarge) (by rfl) G.ga_TooLarge rfl)))) (ts_one (ts_app 1 (tv_sh (tp_tup (tpa_cons tp_str (tpa_cons (tp_fldE 0 (by rfl) (by first | exact Or.inl rfl | exact Or.inr (Or.inl rfl) | exact Or.inr (Or.inr rfl))) tpa_nil)))))) ts_nil)
      (ts_cons (ts_if (tvt_p (tpt_val (tp_isE (v := .ref G.a_TooMuch) (cv := .ref G.a_TooMuch) 0 (fun _ r => r) (by rfl) G.z_isinstance (by rfl) (by first | exact Or.inl rfl | exact Or.inr (Or.inl rfl) | exact Or.inr (Or.inr rfl)) (pe_glob (v := .ref G.a_TooMuch) (by rfl) G.ga_TooMuch rfl)))) (ts_one (ts_app 1 (tv_sh (tp_tup (tpa_cons tp_str (tpa_cons (tp_fldE 0 (by rfl) (by first | exact Or.inl rfl | exact Or.inr (Or.inl rfl) | exact Or.inr (Or.inr rfl))) tpa_nil)))))) ts_nil)
      (ts_cons (ts_if (tvt_p (tpt_val (tp_isE (v := .ref G.a_BadLine) (cv := .ref G.a_BadLine) 0 (fun _ r => r) (by rfl) G.z_isinstance (by rfl) (by first | exact Or.inl rfl | exact Or.inr (Or.inl rfl) | exact Or.inr (Or.inr rfl)) (pe_glob (v := .ref G.a_BadLine) (by rfl) G.ga_BadLine rfl)))) (ts_one (ts_app 1 (tv_sh (tp_tup (tpa_cons tp_str (tpa_cons (tp_fldE 0 (by rfl) (by first | exact Or.inl rfl | exact Or.inr (Or.inl rfl) | exact Or.inr (Or.inr rfl))) (tpa_cons (tp_fldE 0 (by rfl) (by first | exact Or.inl rfl | exact Or.inr (Or.inl rfl) | exact Or.inr (Or.inr rfl))) tpa_nil))))))) ts_nil)
      (ts_cons (ts_if (tvt_p (tpt_val (tp_isE (v := .ref G.a_NoUndo) (cv := .ref G.a_NoUndo) 0 (fun _ r => r) (by rfl) G.z_isinstance (by rfl) (by first | exact Or.inl rfl | exact Or.inr (Or.inl rfl) | exact Or.inr (Or.inr rfl)) (pe_glob (v := .ref G.a_NoUndo) (by rfl) G.ga_NoUndo rfl)))) (ts_one (ts_app 1 (tv_sh (tp_tup (tpa_cons tp_str tpa_nil))))) ts_nil)
      (ts_cons (ts_if (tvt_p (tpt_not (tpt_val (tp_isE (v := .ty "ValueError") (cv := .type "ValueError") 0 (fun _ r => r) (by rfl) G.z_isinstance (by rfl) (by first | exact Or.inl rfl | exact Or.inr (Or.inl rfl) | exact Or.inr (Or.inr rfl)) (pe_bltn (v := .ty "ValueError") (by rfl) G.z_ValueError (by decide +kernel) rfl))))) (ts_one (ts_app 1 (tv_sh (tp_tup (tpa_cons tp_str tpa_nil))))) ts_nil)
      (ts_one (ts_ret (tv_tup 1 (tva_cons 1 (tv_p tp_str) (tva_cons 1 (tv_var 1) tva_nil)) (by simp) (by decide))))))))))))))))), fun x dd R hp hW => ?_⟩

  obtain ⟨t, rfl, h1, h⟩ := hW
  have lk : List.lookup ("coins" : Str) [(("coins" : Str), t.v1)] = some t.v1 := by simp [List.lookup]
  have no := G.x_TooMuch.no
  have xf := G.xf_TooMuch
  have ex := G.ex_TooMuch
  obtain ⟨X, hX⟩ : ∃ X, X = (cxH CX0 P w K mg base ["e", "told"] "_law_error" (defScope s__law_error) G.g__law_error.f cdv A outer s H E p).nox := ⟨_, rfl⟩
  have hK : X.K = K := by rw [hX]; rfl
  rw [← hX] at hp ⊢
  clear hX hr
  refine ⟨(by decide : 1 < 2), ?_⟩
  show uSeq _ _ _ [Ent.ow 0 (.exc p.1 G.x_TooMuch.C dd [("coins", t.v1)]), Ent.ow 1 (.lst [])]
  refine seq_isE hK (fs := [("coins", t.v1)]) rfl hp ex G.k_TooMuch_BadNumber (ifF Bool.false_ne_true ?_)
  refine seq_isE hK (fs := [("coins", t.v1)]) rfl hp ex G.k_TooMuch_BadDay (ifF Bool.false_ne_true ?_)
  refine seq_isE hK (fs := [("coins", t.v1)]) rfl hp ex G.k_TooMuch_NoName (ifF Bool.false_ne_true ?_)
  refine seq_isE hK (fs := [("coins", t.v1)]) rfl hp ex G.k_TooMuch_Clash (ifF Bool.false_ne_true ?_)
  refine seq_isE hK (fs := [("coins", t.v1)]) rfl hp ex G.k_TooMuch_Full (ifF Bool.false_ne_true ?_)
  refine seq_isE hK (fs := [("coins", t.v1)]) rfl hp ex G.k_TooMuch_Refused (ifF Bool.false_ne_true ?_)
  refine seq_isE hK (fs := [("coins", t.v1)]) rfl hp ex G.k_TooMuch_TooFar (ifF Bool.false_ne_true ?_)
  refine seq_isE hK (fs := [("coins", t.v1)]) rfl hp ex G.k_TooMuch_TooLarge (ifF Bool.false_ne_true ?_)
  refine seq_isE hK (fs := [("coins", t.v1)]) rfl hp ex G.k_TooMuch_TooMuch (ifT rfl ?_)
  refine app_fldE hK hp xf no lk h1 ?_
  refine seq_isE hK (fs := [("coins", t.v1)]) rfl hp ex G.k_TooMuch_BadLine (ifF Bool.false_ne_true ?_)
  refine seq_isE hK (fs := [("coins", t.v1)]) rfl hp ex G.k_TooMuch_NoUndo (ifF Bool.false_ne_true ?_)
  refine seq_notE hK (fs := [("coins", t.v1)]) rfl hp ex G.k_TooMuch_VE ?_
  exact ⟨rfl, .inr rfl, .inl (Nat.le_refl _), h⟩
theorem over_hit {m : List (List Int)} {i j : Nat} {r : List Int} {c : Int} (hr : m[i]? = some r) (hc : r[j]? = some c) (ho : over (m.take i) = none) (hf : (r.take j).find? (fun c => decide (40 < c)) = none) (q : decide (40 < c) = true) : over m = some c := by
  have il := (List.getElem?_eq_some_iff.mp hr).1
  have jl := (List.getElem?_eq_some_iff.mp hc).1
  have e1 : m = m.take i ++ r :: m.drop (i + 1) := by
    conv => lhs; rw [← List.take_append_drop i m, List.drop_eq_getElem_cons il]
    rw [(List.getElem?_eq_some_iff.mp hr).2]
  have e2 : r = r.take j ++ c :: r.drop (j + 1) := by
    conv => lhs; rw [← List.take_append_drop j r, List.drop_eq_getElem_cons jl]
    rw [(List.getElem?_eq_some_iff.mp hc).2]
  unfold over at ho ⊢
  rw [e1, List.flatten_append, List.find?_append, ho, List.flatten_cons, e2, List.append_assoc, List.find?_append, hf, List.cons_append, List.find?_cons_of_pos (p := fun c => decide (40 < c)) q]
  rfl
def accZ (n i : Nat) : List T := (List.replicate i (List.replicate n (0 : Int))).map fun r => Li r
theorem accZ_succ (n i : Nat) : accZ n i ++ [T.lst ((List.replicate n (0 : Int)).map T.int)] = accZ n (i + 1) := by unfold accZ; rw [List.replicate_succ', List.map_append]; rfl
theorem accZ_len (n i : Nat) : (accZ n i).length = i := by unfold accZ; rw [List.length_map, List.length_replicate]
def W_debts_of (G : Gs K mg) : FnX := fun ts R Xr => ∃ (n : Nat) (tks : List Tk), ts = [.int n, tsT tks] ∧ n ≤ 6 ∧ InR n tks ∧ (over (debtM n tks) = none → R 0 (Lm (debtM n tks))) ∧ ∀ c, over (debtM n tks) = some c → Xr ⟨G.x_TooMuch.C, [("coins", (T.int c).v1)]⟩
set_option maxHeartbeats 4000000 in
theorem ok_debts_of {k : Nat} (G : Gs K mg) : FnOk P w K mg base (L2N.CX P w) (k + 3) G.g_debts_of.f G.g_debts_of.d ["count", "tickets"] (spTX K 2 (W_debts_of G)) := by
  refine fnTX (k := k + 2) G.g_debts_of.F sc_debts_of rfl (fun X cdv A outer s H E hX hr => ?_)
  subst hX
  refine ⟨_, (ts_cons (ts_setLc (i := 2) (hc := rfl) (hN := sc_debts_of.nd) (hy := rfl) (hyl := rfl) (hsw := sw_true rfl rfl rfl (by decide +kernel)) (own := [("house", 8)]) (k := 1) (js := [8]) (hi := (ti_rng1 (by rfl) G.z_range (tp_var 0))) (ok := (blkOk_by (N := ["count", "tickets", "matrix", "debts", "debtor", "creditor", "coins", "day", "house"]) (sc := defScope s_debts_of) (by decide +kernel))) (hg := fun _ _ _ _ _ => (tg_name 8 sc_debts_of.nd rfl (.inl rfl))) (ht := fun _ _ _ _ _ => tvts_nil) (he := fun _ _ _ _ _ => (tv_rep (tp_lst (tpa_cons tp_int tpa_nil)) (tp_var 0))) (hj := by decide))
      (ts_cons (ts_for (L2.passes_of rfl) rfl (ti_lst (tv_var 1)) (tg_tup rfl (tgs_cons (tg_name 4 sc_debts_of.nd rfl (.inl rfl)) (tgs_cons (tg_name 5 sc_debts_of.nd rfl (.inl rfl)) (tgs_cons (tg_name 6 sc_debts_of.nd rfl (.inl rfl)) (tgs_cons (tg_name 7 sc_debts_of.nd rfl (.inl rfl)) tgs_nil)))) h4_len) (ts_one (ts_aug2 2 ip_add (tp_var 4) (tp_var 5) (tp_var 6))))
      (ts_cons (ts1_dem [2] (ts_for (L2.passes_of rfl) rfl (ti_lst (tv_var 2)) (tg_name 3 sc_debts_of.nd rfl (.inl rfl)) (ts_one (ts_for (L2.passes_of rfl) rfl (ti_lst (tv_var 3)) (tg_name 6 sc_debts_of.nd rfl (.inl rfl)) (ts_one (ts_if (tvt_p (tpt_cmp op_gt opT_bl (tp_var 6) (tp_globI (by rfl) G.c_debt) (nomark _))) (ts_one (ts_raise1 (C0 := G.x_TooMuch.C) rfl (L2N.takes_of rfl rfl rfl rfl) G.x_TooMuch rfl (ok_iTooMuch (k := k + 0) G) hr (by rfl) (tp_var 6))) ts_nil))))))
      (ts_one (ts_ret (tv_fit 0 (tv_var 2))))))), fun ts R Xr hW hlen => ?_⟩

  obtain ⟨n, tks, rfl, n6, hr, h1, h2⟩ := hW
  walk_at "RD"
  rw [Int.toNat_natCast]
  refine ⟨by omega, by omega, fun i acc ρ => acc = accZ n i ∧ ρ = [Ent.ow 0 (.int n), Ent.ow 0 (tsT tks), Ent.no, Ent.no, Ent.no, Ent.no, Ent.no, Ent.no, Ent.no], ⟨rfl, rfl⟩, fun i t acc ρ hi hI => ?_, fun acc ρ hI => ?_⟩
  · obtain ⟨rfl, rfl⟩ := hI
    obtain ⟨il, rfl⟩ := rgT_get.mp hi
    walk_at "RD"
    rw [Int.toNat_natCast, zeros_flat]
    refine ⟨by omega, by omega, by omega, flats_ints _, .inl (Nat.le_refl _), by rw [accZ_len]; omega, ?_⟩
    exact accZ_succ n i
  · obtain ⟨rfl, rfl⟩ := hI
    rw [rgT_len]
    walk_at "RD"
    refine ⟨fun i ρ => ∃ x4 x5 x6 x7, ρ = [Ent.ow 0 (.int n), Ent.ow 0 (tsT tks), Ent.ow 2 (Lm (debtM n (tks.take i))), Ent.no, x4, x5, x6, x7, Ent.no], ⟨_, _, _, _, rfl⟩, fun i t ρ hi hI => ?_, fun ρ hI => ?_⟩
    · obtain ⟨x4, x5, x6, x7, rfl⟩ := hI
      obtain ⟨t, ht, rfl⟩ := tsT_get hi
      have hm := hr t (List.mem_of_getElem? ht)
      have sq := Sq.debt (hr.take i)
      have de := debt_step (n := n) ht
      generalize debtM n (tks.take i) = m at sq de
      obtain ⟨a, b, c, d⟩ := t
      obtain ⟨⟨a0, a1⟩, b0, b1⟩ := hm
      obtain ⟨a, rfl⟩ := Int.eq_ofNat_of_zero_le a0
      obtain ⟨b, rfl⟩ := Int.eq_ofNat_of_zero_le b0
      have a1 : a < n := by have : (a : Int) < n := a1; omega
      have b1 : b < n := by have : (b : Int) < n := b1; omega
      obtain ⟨q1, q2⟩ := sq.at a1
      show hTup _ (.tup [.int a, .int b, .int c, .int d]) _ _
      walk_at "RD"
      have e1 : ixN (m.map fun xs => Li xs).length (a : Int) = some a := ixN_nat (by rw [List.length_map, sq.len]; exact a1)
      have e2 : ixN ((m.getD a []).map T.int).length (b : Int) = some b := ixN_nat (by rw [List.length_map, q2]; exact b1)
      have e3 : (m.map fun xs => Li xs)[a]? = some (Li (m.getD a [])) := by rw [List.getElem?_map, q1]; rfl
      have e4 : ((m.getD a []).map T.int)[b]? = some (.int ((m.getD a []).getD b 0)) := by
        rw [List.getElem?_map, List.getD_eq_getElem?_getD (l := m.getD a []), List.getElem?_eq_getElem (by rw [q2]; exact b1)]; rfl
      simp only [e1, e3, e2, e4]
      have e5 : (m.map fun xs => Li xs).set a (T.lst (((m.getD a []).map T.int).set b (T.int ((m.getD a []).getD b 0 + c)))) = (debtM n (tks.take (i + 1))).map fun xs => Li xs := by
        rw [de]
        show _ = (m.set a ((m.getD a []).set b ((m.getD a []).getD b 0 + c))).map _
        rw [List.map_set]
        unfold Li
        rw [List.map_set]
      rw [e5]
      exact ⟨_, _, _, _, rfl⟩
    · obtain ⟨x4, x5, x6, x7, rfl⟩ := hI
      rw [List.length_map, List.take_length]
      have sq := Sq.debt hr
      generalize debtM n tks = m at sq h1 h2
      walk_at "RD"
      refine ⟨fun i ρ => ∃ x3 x4 x5 x6 x7, ρ = [Ent.ow 0 (.int n), Ent.ow 0 (tsT tks), Ent.ow 0 (Lm m), x3, x4, x5, x6, x7, Ent.no] ∧ over (m.take i) = none, ⟨_, _, _, _, _, rfl, rfl⟩, fun i t ρ hi hI => ?_, fun ρ hI => ?_⟩
      · obtain ⟨x3, x4, x5, x6, x7, rfl, ho⟩ := hI
        obtain ⟨r, hr, rfl⟩ : ∃ r, m[i]? = some r ∧ t = Li r := by
          rw [List.getElem?_map] at hi
          cases e : m[i]? with
          | none => rw [e] at hi; cases hi
          | some r => rw [e] at hi; cases hi; exact ⟨r, rfl, rfl⟩
        walk_at "RD"
        refine ⟨fun j ρ => ∃ x4 x5 x6 x7, ρ = [Ent.ow 0 (.int n), Ent.ow 0 (tsT tks), Ent.ow 0 (Lm m), Ent.ow 0 (Li r), x4, x5, x6, x7, Ent.no] ∧ (r.take j).find? (fun c => decide (40 < c)) = none, ⟨_, _, _, _, rfl, rfl⟩, fun j t ρ hj hI => ?_, fun ρ hI => ?_⟩
        · obtain ⟨x4, x5, x6, x7, rfl, hf⟩ := hI
          obtain ⟨c, hc, rfl⟩ := mapint_get.mp hj
          walk_at "RD"
          refine ifS (fun q => ⟨rfl, h2 c ?_⟩) fun q => ⟨_, _, _, _, rfl, ?_⟩
          · exact over_hit hr hc ho hf q
          · rw [← take_snoc hc, List.find?_append, hf, List.find?_cons_of_neg (p := fun c => decide (40 < c)) q]; rfl
        · obtain ⟨x4, x5, x6, x7, rfl, hf⟩ := hI
          rw [List.length_map, List.take_length] at hf
          exact ⟨_, _, _, _, _, rfl, by rw [← take_snoc hr]; unfold over at ho ⊢; rw [List.flatten_append, List.find?_append, ho]; simpa using hf⟩
      · obtain ⟨x3, x4, x5, x6, x7, rfl, ho⟩ := hI
        rw [List.length_map, List.take_length] at ho
        walk_at "RD"
        exact ⟨fit0, h1 ho⟩
end
end K95
set_option Elab.async false
set_option linter.all false
set_option maxRecDepth 100000
namespace K95
open PySem PySem.Spec PyProof.Rows L2 L2H TL
/-! lists of numbers with one changed -/
abbrev at0 (l : List Int) (k : Nat) : Int := l.getD k 0
theorem at0_set {l : List Int} {i : Nat} {a : Int} (h : i < l.length) (k : Nat) : at0 (l.set i a) k = if k = i then a else at0 l k := by
  unfold at0
  rw [List.getD_eq_getElem?_getD, List.getD_eq_getElem?_getD]
  by_cases e : k = i
  · subst e; rw [if_pos rfl, List.getElem?_set_self h]; rfl
  · rw [if_neg e, List.getElem?_set_ne (fun z => e z.symm)]
theorem at0_get {l : List Int} {k : Nat} (h : k < l.length) : l[k]? = some (at0 l k) := by
  unfold at0; rw [List.getD_eq_getElem?_getD, List.getElem?_eq_getElem h]; rfl
theorem at0_of {l : List Int} {k : Nat} {x : Int} (h : l[k]? = some x) : at0 l k = x := by
  unfold at0; rw [List.getD_eq_getElem?_getD, h]; rfl
theorem at0_ext {l m : List Int} (hl : l.length = m.length) (h : ∀ k, k < l.length → at0 l k = at0 m k) : l = m := by
  apply List.ext_getElem hl
  intro k h1 h2
  have e := h k h1
  have e1 := at0_of (List.getElem?_eq_getElem h1)
  have e2 := at0_of (List.getElem?_eq_getElem h2)
  rw [← e1, ← e2, e]
/-- a sum over the items -/
def sumF (f : Int → Int) : List Int → Int
  | [] => 0
  | x :: l => f x + sumF f l
theorem sumF_set (f : Int → Int) : ∀ {l : List Int} {i : Nat} {a : Int}, i < l.length → sumF f (l.set i a) = sumF f l - f (at0 l i) + f a
  | [], _, _, h => absurd h (Nat.not_lt_zero _)
  | x :: l, 0, a, _ => by
    show f a + sumF f l = f x + sumF f l - f x + f a
    omega
  | x :: l, i + 1, a, h => by
    have ih := sumF_set f (l := l) (i := i) (a := a) (by simpa using h)
    show f x + sumF f (l.set i a) = f x + sumF f l - f (at0 l i) + f a
    rw [ih]; omega
theorem sumF_nonneg {f : Int → Int} : ∀ {l : List Int}, (∀ k, k < l.length → 0 ≤ f (at0 l k)) → 0 ≤ sumF f l
  | [], _ => Int.le_refl _
  | x :: l, h => by
    have h0 := h 0 (Nat.succ_pos _)
    have ih := sumF_nonneg (f := f) (l := l) fun k hk => h (k + 1) (by simpa using hk)
    have h0 : 0 ≤ f x := h0
    show 0 ≤ f x + sumF f l
    omega
theorem sumF_ge {f : Int → Int} : ∀ {l : List Int}, (∀ k, k < l.length → 0 ≤ f (at0 l k)) → ∀ k, k < l.length → f (at0 l k) ≤ sumF f l
  | [], _, _, h => absurd h (Nat.not_lt_zero _)
  | x :: l, h, 0, _ => by
    have ih := sumF_nonneg (f := f) (l := l) fun k hk => h (k + 1) (by simpa using hk)
    show f x ≤ f x + sumF f l
    omega
  | x :: l, h, k + 1, hk => by
    have ih := sumF_ge (f := f) (l := l) (fun k hk => h (k + 1) (by simpa using hk)) k (by simpa using hk)
    have h0 : 0 ≤ f x := h 0 (Nat.succ_pos _)
    show f (at0 l k) ≤ f x + sumF f l
    omega
def idF (x : Int) : Int := x
def ngF (x : Int) : Int := -x
def nzF (x : Int) : Int := if x = 0 then 0 else 1
def psF (x : Int) : Int := if 0 < x then x else 0
theorem sumF_ng : ∀ l, sumF ngF l = - sumF idF l
  | [] => rfl
  | x :: l => by show -x + sumF ngF l = -(x + sumF idF l); rw [sumF_ng l]; omega
/-- x coins from d to c -/
def mv (l : List Int) (d c : Nat) (x : Int) : List Int := (l.set d (at0 l d + x)).set c (at0 (l.set d (at0 l d + x)) c - x)
theorem mv_len {l : List Int} {d c : Nat} {x : Int} : (mv l d c x).length = l.length := by unfold mv; rw [List.length_set, List.length_set]
theorem mv_at {l : List Int} {d c : Nat} {x : Int} (hd : d < l.length) (hc : c < l.length) (k : Nat) : at0 (mv l d c x) k = at0 l k + (if k = d then x else 0) - (if k = c then x else 0) := by
  unfold mv
  rw [at0_set (by rw [List.length_set]; exact hc), at0_set hd, at0_set hd]
  by_cases e1 : k = c
  · rw [if_pos e1, if_pos e1]
    by_cases e2 : c = d
    · rw [if_pos e2, if_pos (e1.trans e2)]; rw [e1, e2]
    · rw [if_neg e2, if_neg (fun z => e2 (e1.symm.trans z))]; rw [e1]; omega
  · rw [if_neg e1, if_neg e1]
    by_cases e2 : k = d
    · rw [if_pos e2, if_pos e2]; rw [e2]; omega
    · rw [if_neg e2, if_neg e2]; omega
theorem mv_sum {f : Int → Int} {l : List Int} {d c : Nat} {x : Int} (hd : d < l.length) (hc : c < l.length) (ne : d ≠ c) : sumF f (mv l d c x) = sumF f l - f (at0 l d) - f (at0 l c) + f (at0 l d + x) + f (at0 l c - x) := by
  unfold mv
  rw [sumF_set f (by rw [List.length_set]; exact hc), sumF_set f hd, at0_set hd, if_neg (fun z => ne z.symm)]
  omega
/-! netting -/
abbrev En := Nat × Nat × Int
structure Fst (l : List Int) (d c : Nat) (x : Int) : Prop where
  dl : d < l.length
  cl : c < l.length
  dn : at0 l d < 0
  cp : 0 < at0 l c
  df : ∀ k, k < d → 0 ≤ at0 l k
  cf : ∀ k, k < c → at0 l k ≤ 0
  xe : x = min (- at0 l d) (at0 l c)
theorem Fst.ne {l : List Int} {d c : Nat} {x : Int} (h : Fst l d c x) : d ≠ c := fun e => by
  have a := h.dn
  have b := h.cp
  rw [e] at a
  omega
inductive Run : List Int → List En → List Int → Prop
  | nil (l) : Run l [] l
  | snoc {l es l1 d c x} : Run l es l1 → Fst l1 d c x → Run l (es ++ [(d, c, x)]) (mv l1 d c x)
theorem Run.len {l es l'} (h : Run l es l') : l'.length = l.length := by
  induction h with
  | nil => rfl
  | snoc _ _ ih => rw [mv_len, ih]
theorem Run.sum {l es l'} (h : Run l es l') : sumF idF l' = sumF idF l := by
  induction h with
  | nil => rfl
  | snoc _ f ih => rw [mv_sum f.dl f.cl f.ne, ih]; unfold idF; omega
theorem Run.nz {l es l'} (h : Run l es l') : sumF nzF l' + es.length ≤ sumF nzF l := by
  induction h with
  | nil => simp
  | @snoc es l1 d c x _ f ih =>
    rw [mv_sum f.dl f.cl f.ne, List.length_append, List.length_singleton]
    have e := f.xe
    have a := f.dn
    have b := f.cp
    have h1 : nzF (at0 l1 d) = 1 := if_neg (by omega)
    have h2 : nzF (at0 l1 c) = 1 := if_neg (by omega)
    have h3 : nzF (at0 l1 d + x) + nzF (at0 l1 c - x) ≤ 1 := by
      unfold nzF
      have : at0 l1 d + x = 0 ∨ at0 l1 c - x = 0 := by omega
      rcases this with z | z
      · rw [if_pos z]; split <;> omega
      · rw [if_pos z]; split <;> omega
    push_cast
    omega
theorem nzF_nonneg (x : Int) : 0 ≤ nzF x := by unfold nzF; split <;> omega
theorem sumF_two {f : Int → Int} (hf : ∀ x, 0 ≤ f x) {l : List Int} {d c : Nat} (hd : d < l.length) (hc : c < l.length) (ne : d ≠ c) : f (at0 l d) + f (at0 l c) - f 0 - f 0 ≤ sumF f l - f 0 - f 0 + f 0 + f 0 := by
  have e1 := sumF_set f (l := l) (i := d) (a := 0) hd
  have e2 := sumF_set f (l := l.set d 0) (i := c) (a := 0) (by rw [List.length_set]; exact hc)
  rw [at0_set hd, if_neg (fun z => ne z.symm)] at e2
  have e3 := sumF_nonneg (f := f) (l := (l.set d 0).set c 0) fun k _ => hf _
  have := hf 0
  omega
theorem Run.short {l es l'} (h : Run l es l') : (es.length : Int) ≤ max 0 (sumF nzF l - 1) := by
  cases h with
  | nil => simp; omega
  | @snoc es l1 d c x h f =>
    have z := h.nz
    have two := sumF_two nzF_nonneg f.dl f.cl f.ne
    have a := f.dn
    have b := f.cp
    have h1 : nzF (at0 l1 d) = 1 := if_neg (by omega)
    have h2 : nzF (at0 l1 c) = 1 := if_neg (by omega)
    have h0 : nzF 0 = 0 := rfl
    rw [List.length_append, List.length_singleton]
    push_cast
    omega
def coinsOf (es : List En) : Int := (es.map fun e => e.2.2).sum
theorem coins_snoc (es : List En) (e : En) : coinsOf (es ++ [e]) = coinsOf es + e.2.2 := by unfold coinsOf; rw [List.map_append, List.sum_append]; simp
theorem Run.ps {l es l'} (h : Run l es l') : coinsOf es + sumF psF l' = sumF psF l := by
  induction h with
  | nil => show 0 + _ = _; omega
  | @snoc es l1 d c x _ f ih =>
    rw [mv_sum f.dl f.cl f.ne, coins_snoc]
    have e := f.xe
    have a := f.dn
    have b := f.cp
    have h1 : psF (at0 l1 d) = 0 := if_neg (by omega)
    have h2 : psF (at0 l1 c) = at0 l1 c := if_pos b
    have h3 : psF (at0 l1 d + x) = 0 := if_neg (by omega)
    have h4 : psF (at0 l1 c - x) = at0 l1 c - x := by unfold psF; split <;> omega
    rw [h1, h2, h3, h4]
    show coinsOf es + x + _ = _
    omega
/-- what each has got -/
def gain (n : Nat) (es : List En) : List Int := es.foldl (fun g e => (g.set e.1 (at0 g e.1 - e.2.2)).set e.2.1 (at0 (g.set e.1 (at0 g e.1 - e.2.2)) e.2.1 + e.2.2)) (List.replicate n 0)
theorem gain_snoc (n : Nat) (es : List En) (e : En) : gain n (es ++ [e]) = ((gain n es).set e.1 (at0 (gain n es) e.1 - e.2.2)).set e.2.1 (at0 ((gain n es).set e.1 (at0 (gain n es) e.1 - e.2.2)) e.2.1 + e.2.2) := by unfold gain; rw [List.foldl_append]; rfl
theorem gain_len (n : Nat) (es : List En) : (gain n es).length = n := by
  unfold gain
  have : ∀ (es : List En) (g : List Int), (es.foldl (fun g e => (g.set e.1 (at0 g e.1 - e.2.2)).set e.2.1 (at0 (g.set e.1 (at0 g e.1 - e.2.2)) e.2.1 + e.2.2)) g).length = g.length := by
    intro es
    induction es with
    | nil => exact fun _ => rfl
    | cons e es ih => exact fun g => by rw [List.foldl_cons, ih, List.length_set, List.length_set]
  rw [this, List.length_replicate]
theorem at0_zero (n k : Nat) : at0 (List.replicate n 0) k = 0 := by
  unfold at0
  rw [List.getD_eq_getElem?_getD, List.getElem?_replicate]
  split <;> rfl
theorem Run.gain {l es l'} (h : Run l es l') : ∀ k, at0 l' k + at0 (K95.gain l.length es) k = at0 l k := by
  induction h with
  | nil => intro k; rw [K95.gain, List.foldl_nil, at0_zero]; omega
  | @snoc es l1 d c x hr f ih =>
    intro k
    have hl := hr.len
    have d1 : d < (K95.gain l.length es).length := by rw [gain_len, ← hl]; exact f.dl
    have c1 : c < (K95.gain l.length es).length := by rw [gain_len, ← hl]; exact f.cl
    have e := ih k
    rw [mv_at f.dl f.cl, gain_snoc]
    show at0 l1 k + _ - _ + at0 (((K95.gain l.length es).set d (at0 (K95.gain l.length es) d - x)).set c (at0 ((K95.gain l.length es).set d (at0 (K95.gain l.length es) d - x)) c + x)) k = _
    rw [at0_set (by rw [List.length_set]; exact c1), at0_set d1, at0_set d1]
    have ne := f.ne
    have ed := ih d
    have ec := ih c
    by_cases e1 : k = c
    · subst e1
      rw [if_pos rfl, if_pos rfl, if_neg (fun z => ne z.symm), if_neg (fun z => ne z.symm)]
      omega
    · rw [if_neg e1, if_neg e1]
      by_cases e2 : k = d
      · subst e2
        rw [if_pos rfl, if_pos rfl]; omega
      · rw [if_neg e2, if_neg e2]; omega
theorem Run.good {l es l'} (h : Run l es l') : ∀ e ∈ es, e.1 < l.length ∧ e.2.1 < l.length ∧ 1 ≤ e.2.2 := by
  induction h with
  | nil => intro e he; simp at he
  | @snoc es l1 d c x hr f ih =>
    intro e he
    rcases List.mem_append.mp he with z | z
    · exact ih e z
    · rw [List.mem_singleton.mp z]
      have hl := hr.len
      have a := f.dn
      have b := f.cp
      have c' := f.xe
      exact ⟨by rw [← hl]; exact f.dl, by rw [← hl]; exact f.cl, by show 1 ≤ x; omega⟩
end K95
set_option Elab.async false
set_option linter.all false
set_option maxRecDepth 100000
namespace K95
open PySem PySem.Spec PyProof.Rows L2 L2H TL
def negs (l : List Int) : List Nat := (List.range l.length).filter fun k => decide (at0 l k < 0)
def poss (l : List Int) : List Nat := (List.range l.length).filter fun k => decide (0 < at0 l k)
theorem mem_negs {l : List Int} {k : Nat} : k ∈ negs l ↔ k < l.length ∧ at0 l k < 0 := by unfold negs; rw [List.mem_filter, List.mem_range, decide_eq_true_eq]
theorem mem_poss {l : List Int} {k : Nat} : k ∈ poss l ↔ k < l.length ∧ 0 < at0 l k := by unfold poss; rw [List.mem_filter, List.mem_range, decide_eq_true_eq]
theorem lt_negs (l : List Int) : (negs l).Pairwise (· < ·) := List.pairwise_lt_range.filter _
theorem lt_poss (l : List Int) : (poss l).Pairwise (· < ·) := List.pairwise_lt_range.filter _
theorem before {l : List Nat} (h : l.Pairwise (· < ·)) {i : Nat} {d k : Nat} (hd : l[i]? = some d) (hk : k ∈ l) (lt : k < d) : ∃ i', i' < i ∧ l[i']? = some k := by
  obtain ⟨i', hi'⟩ := List.mem_iff_getElem?.mp hk
  refine ⟨i', ?_, hi'⟩
  obtain ⟨h1, rfl⟩ := List.getElem?_eq_some_iff.mp hd
  obtain ⟨h2, rfl⟩ := List.getElem?_eq_some_iff.mp hi'
  rcases Nat.lt_trichotomy i' i with z | z | z
  · exact z
  · subst z; omega
  · have := (List.pairwise_iff_getElem.mp h) i i' h1 h2 z
    omega
theorem uniq {l : List Nat} (h : l.Pairwise (· < ·)) {i i' d : Nat} (hd : l[i]? = some d) (hd' : l[i']? = some d) : i = i' := by
  obtain ⟨h1, e⟩ := List.getElem?_eq_some_iff.mp hd
  obtain ⟨h2, e'⟩ := List.getElem?_eq_some_iff.mp hd'
  rcases Nat.lt_trichotomy i i' with z | z | z
  · have := (List.pairwise_iff_getElem.mp h) i i' h1 h2 z; omega
  · exact z
  · have := (List.pairwise_iff_getElem.mp h) i' i h2 h1 z; omega
/-! the law's way -/
def nst (l : List Int) : Option En := match (negs l).head?, (poss l).head? with
  | some d, some c => some (d, c, min (0 - at0 l d) (at0 l c))
  | _, _ => none
def lawN (r : List Int) : Nat → List En × List Int
  | 0 => ([], r)
  | t + 1 => match nst (lawN r t).2 with
    | some e => ((lawN r t).1 ++ [e], mv (lawN r t).2 e.1 e.2.1 e.2.2)
    | none => lawN r t
theorem head_filter {n d : Nat} {p : Nat → Bool} (hd : d < n) (hp : p d = true) (hb : ∀ k, k < d → p k = false) : ((List.range n).filter p).head? = some d := by
  rw [List.head?_filter]
  exact List.find?_range_eq_some.mpr ⟨hp, List.mem_range.mpr hd, fun j hj => by rw [hb j hj]; rfl⟩
theorem Fst.nst {l : List Int} {d c : Nat} {x : Int} (h : Fst l d c x) : K95.nst l = some (d, c, x) := by
  have e1 : (negs l).head? = some d := head_filter h.dl (by simpa using h.dn) fun k hk => by have := h.df k hk; simpa using this
  have e2 : (poss l).head? = some c := head_filter h.cl (by simpa using h.cp) fun k hk => by have := h.cf k hk; simpa using this
  unfold K95.nst
  rw [e1, e2]
  have e : min (0 - at0 l d) (at0 l c) = x := by have := h.xe; omega
  show some (d, c, min (0 - at0 l d) (at0 l c)) = _
  rw [e]
theorem nst_zero {l : List Int} (h : ∀ k, k < l.length → at0 l k = 0) : nst l = none := by
  have e1 : negs l = [] := by
    cases e : negs l with
    | nil => rfl
    | cons d ds =>
      have m : d ∈ negs l := by rw [e]; exact List.mem_cons_self
      obtain ⟨a, b⟩ := mem_negs.mp m
      have := h d a
      omega
  unfold nst
  rw [e1]
  rfl
theorem Run.law {l es l'} (h : Run l es l') : lawN l es.length = (es, l') := by
  induction h with
  | nil => rfl
  | @snoc es l1 d c x hr f ih =>
    rw [List.length_append, List.length_singleton, lawN, ih]
    show (match K95.nst l1 with | some e => (es ++ [e], mv l1 e.1 e.2.1 e.2.2) | none => (es, l1)) = _
    rw [f.nst]
theorem Run.lawAll {l es l'} (h : Run l es l') (z : ∀ k, k < l'.length → at0 l' k = 0) : ∀ m, lawN l (es.length + m) = (es, l')
  | 0 => h.law
  | m + 1 => by
    show (match K95.nst (lawN l (es.length + m)).2 with | some e => _ | none => lawN l (es.length + m)) = _
    rw [Run.lawAll h z m]
    show (match K95.nst l' with | some e => _ | none => (es, l')) = _
    rw [nst_zero z]
/-! the program's way -/
structure PI (r0 : List Int) (i j : Nat) (es : List En) (l : List Int) : Prop where
  run : Run r0 es l
  z : ∀ k, at0 r0 k = 0 → at0 l k = 0
  ng : ∀ k, at0 r0 k < 0 → at0 l k ≤ 0
  ps : ∀ k, 0 < at0 r0 k → 0 ≤ at0 l k
  c : ∀ i' d, i' < i → (negs r0)[i']? = some d → at0 l d = 0
  dd : ∀ j' c d, j' < j → (poss r0)[j']? = some c → (negs r0)[i]? = some d → at0 l c = 0 ∨ at0 l d = 0
theorem PI.start (r : List Int) : PI r 0 0 [] r := ⟨.nil r, fun _ => id, fun _ => Int.le_of_lt, fun _ => Int.le_of_lt, fun _ _ h => absurd h (Nat.not_lt_zero _), fun _ _ _ h => absurd h (Nat.not_lt_zero _)⟩
section
variable {r0 l : List Int} {i j d c : Nat} {es : List En}
theorem PI.signs (h : PI r0 i j es l) (hd : (negs r0)[i]? = some d) (hc : (poss r0)[j]? = some c) : d < l.length ∧ c < l.length ∧ at0 l d ≤ 0 ∧ 0 ≤ at0 l c ∧ d ≠ c := by
  obtain ⟨a1, a2⟩ := mem_negs.mp (List.mem_of_getElem? hd)
  obtain ⟨b1, b2⟩ := mem_poss.mp (List.mem_of_getElem? hc)
  have hl := h.run.len
  exact ⟨by omega, by omega, h.ng d a2, h.ps c b2, fun e => by rw [e] at a2; omega⟩
theorem PI.skip (h : PI r0 i j es l) (hd : (negs r0)[i]? = some d) (hc : (poss r0)[j]? = some c) (hx : ¬ 0 < min (- at0 l d) (at0 l c)) : PI r0 i (j + 1) es l := by
  obtain ⟨_, _, s1, s2, _⟩ := h.signs hd hc
  refine ⟨h.run, h.z, h.ng, h.ps, h.c, fun j' c' d' hj hc' hd' => ?_⟩
  rcases Nat.lt_or_eq_of_le (Nat.le_of_lt_succ hj) with q | q
  · exact h.dd j' c' d' q hc' hd'
  · subst q
    rw [hc] at hc'; cases hc'
    rw [hd] at hd'; cases hd'
    omega
theorem PI.fst (h : PI r0 i j es l) (hd : (negs r0)[i]? = some d) (hc : (poss r0)[j]? = some c) (hx : 0 < min (- at0 l d) (at0 l c)) : Fst l d c (min (- at0 l d) (at0 l c)) := by
  obtain ⟨d1, c1, s1, s2, _⟩ := h.signs hd hc
  have hl := h.run.len
  refine ⟨d1, c1, by omega, by omega, fun k hk => ?_, fun k hk => ?_, rfl⟩
  · rcases Int.lt_or_le (at0 l k) 0 with q | q
    · have r : at0 r0 k < 0 := by
        rcases Int.lt_trichotomy (at0 r0 k) 0 with z | z | z
        · exact z
        · have := h.z k z; omega
        · have := h.ps k z; omega
      obtain ⟨i', hi, e⟩ := before (lt_negs r0) hd (mem_negs.mpr ⟨by omega, r⟩) hk
      have := h.c i' k hi e
      omega
    · exact q
  · rcases Int.lt_or_le 0 (at0 l k) with q | q
    · have r : 0 < at0 r0 k := by
        rcases Int.lt_trichotomy (at0 r0 k) 0 with z | z | z
        · have := h.ng k z; omega
        · have := h.z k z; omega
        · exact z
      obtain ⟨j', hj, e⟩ := before (lt_poss r0) hc (mem_poss.mpr ⟨by omega, r⟩) hk
      rcases h.dd j' k d hj e hd with z | z <;> omega
    · exact q
theorem PI.move (h : PI r0 i j es l) (hd : (negs r0)[i]? = some d) (hc : (poss r0)[j]? = some c) (hx : 0 < min (- at0 l d) (at0 l c)) : PI r0 i (j + 1) (es ++ [(d, c, min (- at0 l d) (at0 l c))]) (mv l d c (min (- at0 l d) (at0 l c))) := by
  have f := h.fst hd hc hx
  obtain ⟨d1, c1, s1, s2, ne⟩ := h.signs hd hc
  obtain ⟨_, r1⟩ := mem_negs.mp (List.mem_of_getElem? hd)
  obtain ⟨_, r2⟩ := mem_poss.mp (List.mem_of_getElem? hc)
  generalize hxe : min (- at0 l d) (at0 l c) = x at *
  have ed : at0 (mv l d c x) d = at0 l d + x := by rw [mv_at d1 c1, if_pos rfl, if_neg ne]; omega
  have ec : at0 (mv l d c x) c = at0 l c - x := by rw [mv_at d1 c1, if_pos rfl, if_neg (fun z => ne z.symm)]; omega
  have eo : ∀ k, k ≠ d → k ≠ c → at0 (mv l d c x) k = at0 l k := fun k q1 q2 => by rw [mv_at d1 c1, if_neg q1, if_neg q2]; omega
  refine ⟨.snoc h.run f, fun k hk => ?_, fun k hk => ?_, fun k hk => ?_, fun i' d' hi he => ?_, fun j' c' d' hj hc' hd' => ?_⟩
  · rw [eo k (fun e => by rw [e] at hk; omega) (fun e => by rw [e] at hk; omega)]; exact h.z k hk
  · by_cases q : k = d
    · rw [q, ed]; omega
    · rw [eo k q (fun e => by rw [e] at hk; omega)]; exact h.ng k hk
  · by_cases q : k = c
    · rw [q, ec]; omega
    · rw [eo k (fun e => by rw [e] at hk; omega) q]; exact h.ps k hk
  · obtain ⟨_, r3⟩ := mem_negs.mp (List.mem_of_getElem? he)
    rw [eo d' (fun e => by subst e; have := uniq (lt_negs r0) he hd; omega) (fun e => by rw [e] at r3; omega)]
    exact h.c i' d' hi he
  · rw [hd] at hd'; cases hd'
    rw [ed]
    by_cases q : c' = c
    · rw [q, ec]; omega
    · rcases Nat.lt_or_eq_of_le (Nat.le_of_lt_succ hj) with q2 | q2
      · obtain ⟨_, r3⟩ := mem_poss.mp (List.mem_of_getElem? hc')
        rw [eo c' (fun e => by rw [e] at r3; omega) q]
        rcases h.dd j' c' d q2 hc' hd with z | z
        · exact .inl z
        · omega
      · subst q2
        rw [hc] at hc'; cases hc'
        exact absurd rfl q
theorem PI.row (h : PI r0 i (poss r0).length es l) (hd : (negs r0)[i]? = some d) (h0 : sumF idF r0 = 0) : PI r0 (i + 1) 0 es l := by
  refine ⟨h.run, h.z, h.ng, h.ps, fun i' d' hi he => ?_, fun _ _ _ hj => absurd hj (Nat.not_lt_zero _)⟩
  rcases Nat.lt_or_eq_of_le (Nat.le_of_lt_succ hi) with q | q
  · exact h.c i' d' q he
  · subst q
    rw [hd] at he; cases he
    obtain ⟨a1, a2⟩ := mem_negs.mp (List.mem_of_getElem? hd)
    have hl := h.run.len
    by_cases q : at0 l d = 0
    · exact q
    · have neg : ∀ k, k < l.length → 0 ≤ ngF (at0 l k) := fun k hk => by
        show 0 ≤ - at0 l k
        rcases Int.lt_trichotomy (at0 r0 k) 0 with z | z | z
        · have := h.ng k z; omega
        · have := h.z k z; omega
        · obtain ⟨j', hj⟩ := List.mem_iff_getElem?.mp (mem_poss.mpr ⟨by omega, z⟩)
          have := h.dd j' k d (List.getElem?_eq_some_iff.mp hj).1 hj hd
          omega
      have g := sumF_ge neg d (by omega)
      rw [sumF_ng, h.run.sum, h0] at g
      have g : - at0 l d ≤ -0 := g
      have := h.ng d a2
      omega
theorem PI.fin (h : PI r0 (negs r0).length j es l) (h0 : sumF idF r0 = 0) : ∀ k, k < l.length → at0 l k = 0 := by
  have hl := h.run.len
  have pos : ∀ k, k < l.length → 0 ≤ idF (at0 l k) := fun k hk => by
    show 0 ≤ at0 l k
    rcases Int.lt_trichotomy (at0 r0 k) 0 with z | z | z
    · obtain ⟨i', hi⟩ := List.mem_iff_getElem?.mp (mem_negs.mpr ⟨by omega, z⟩)
      have := h.c i' k (List.getElem?_eq_some_iff.mp hi).1 hi
      omega
    · have := h.z k z; omega
    · exact h.ps k z
  intro k hk
  have g := sumF_ge pos k hk
  rw [h.run.sum, h0] at g
  have g : at0 l k ≤ 0 := g
  have p : 0 ≤ at0 l k := pos k hk
  omega
end
/-! what the netting tells -/
structure Net (r : List Int) (es : List En) : Prop where
  law : (lawN r r.length).1 = es
  short : (es.length : Int) ≤ max 0 (sumF nzF r - 1)
  good : ∀ e ∈ es, e.1 < r.length ∧ e.2.1 < r.length ∧ 1 ≤ e.2.2
  gain : gain r.length es = r
  coins : coinsOf es = sumF psF r
theorem sumF_le {f : Int → Int} (hf : ∀ x, f x ≤ 1) : ∀ l : List Int, sumF f l ≤ l.length
  | [] => Int.le_refl _
  | x :: l => by
    have ih := sumF_le hf l
    have := hf x
    show f x + sumF f l ≤ _
    rw [List.length_cons]; push_cast; omega
theorem sumF_0 {f : Int → Int} (hf : f 0 = 0) : ∀ {l : List Int}, (∀ k, k < l.length → at0 l k = 0) → sumF f l = 0
  | [], _ => rfl
  | x :: l, h => by
    have e : x = 0 := h 0 (Nat.succ_pos _)
    have ih := sumF_0 hf (l := l) fun k hk => h (k + 1) (by simpa using hk)
    show f x + sumF f l = 0
    rw [ih, e, hf]; rfl
theorem Run.net {r es l} (h : Run r es l) (z : ∀ k, k < l.length → at0 l k = 0) : Net r es := by
  have s := h.short
  have le := sumF_le (f := nzF) (fun x => by unfold nzF; split <;> omega) r
  refine ⟨?_, s, h.good, ?_, ?_⟩
  · have : es.length ≤ r.length := by omega
    obtain ⟨m, e⟩ := Nat.exists_eq_add_of_le this
    rw [e, h.lawAll z m]
  · apply at0_ext (gain_len _ _)
    intro k hk
    rw [gain_len] at hk
    have g := h.gain k
    rw [z k (by rw [h.len]; exact hk)] at g
    omega
  · have p := h.ps
    rw [sumF_0 (f := psF) rfl z] at p
    omega
theorem Net.unique {r es fs} (h : Net r es) (g : Net r fs) : es = fs := h.law.symm.trans g.law
end K95
set_option Elab.async false
set_option linter.all false
set_option maxRecDepth 100000
namespace K95
open PySem PySem.Spec PyProof.Rows L2 L2H TL
local macro_rules | `(tactic| walk_at "RD") => `(tactic| simp -dsimp only [↓uSeq, ↓uNext, ↓uFor, ↓uSt, ↓uStV, ↓uAu, ↓uAp, ↓uApMv, ↓uAuN, ↓uAlias, ↓uDem, ↓uBrk, ↓uCnt, ↓uNev, ↓uRet, ↓uRetN, ↓uExp, ↓uExpP, ↓uRaise1, ↓wCallX, ↓uExpX, ↓uRetX, ↓uSetX, ↓uTryE, ↓uForD, ↓uAsgT, ↓wSlT, ↓gCatT, ↓uForV, ↓uForI, ↓uDp, ↓uSt2, ↓uAu2, ↓uAp2, ↓uDemK, ↓wDG1, ↓wDG2, ↓wDisp, ↓vKD, ↓vKG, ↓vKL, ↓vDN, ↓vLend, ↓gDG, ↓gDI, ↓gGet, ↓gLenA, ↓gStrI, ↓gTupl, ↓gDict, ↓iZp3, ↓TL.iRngV, kidT, ↓tKey_int, ↓tKey_str, ↓tKey_kT, ↓tKeyL, ↓tKeys, ↓ownD, kidsOf, ndSet, dput, dlook, noX, rdE, demK, ↓gLtT, ↓iRngD, ↓vSortP, ↓vCat, ↓vCatV, ↓gCat, ↓uSet, ↓uSetR, ↓uIf, ↓wVar, ↓wVarV, ↓wC, ↓w1, ↓w2, ↓wT, asB, ↓wChain, ↓wNil, ↓wCons, ↓wAnd, ↓wOr, ↓wNot, ↓wAndV, ↓wOrV, ↓wNotV, ↓wIf, ↓wCallP, ↓wCallV, ↓wCa, ↓wTup, ↓wLst, ↓oNon, ↓oSom, ↓wSlice, ↓wRev, ↓vP, ↓vSh, ↓vFit, ↓vaNil, ↓vaCons, ↓vLst, ↓vTup, ↓vTup0, ↓vList, ↓vRep, ↓vSlice, ↓cSl, ↓vCallN, ↓v1, ↓vCa, ↓vIx, ↓tP, ↓vAnd, ↓vOr, ↓vNot, ↓vIf, ↓vT, ↓v2, ↓vLc, ↓gI2, ↓gI2c, ↓gLen, ↓gII, ↓gI, ↓gInt1, ↓gRep, ↓gKids, ↓gIn, ↓iLst, ↓TL.iTup, ↓TL.iRng1, ↓TL.iRng2, ↓iEn, ↓iZp, ↓hName, ↓hCons, ↓hNil, ↓hTup, ↓wSl, ↓wIsi, ↓wYes, rho0, iniE, entOf, allSh, List.replicate, List.length_cons, List.length_nil, Nat.reduceAdd, Nat.reduceSub, Nat.reduceLT, Nat.reduceLeDiff, List.cons_append, List.nil_append, List.getElem?_cons_zero, List.getElem?_cons_succ, Option.bind_some, Ent.tr, Ent.own, Ent.put, setE, killA, noAl_ow, noAl_io1, noAl_no, noAl_ro, noAl_al', killJ_cons, killJ_nil0, noRo_ow, noRo_io, noRo_no, noRo_al, mem1, notIn, noRA_ow, noRA_io, noRA_no, noRA_al, Plc, demE, List.foldl_cons, List.foldl_nil, List.map_cons, List.map_nil, List.set_cons_zero, List.set_cons_succ, endsOf, ↓outsOf, Option.map_some, plSet, TL.putAt, T.put, true_and, and_true, lst_set, lst_snoc, lm_set, lm_snoc, shOnly, shE_ow0, shE_ow1, shE_io, shE_no, Option.isSome_some, reduceIte, if_true, if_false, Bool.false_eq_true, Nat.reduceEqDiff, ↓vRev, ↓vPure, frz_cons, frz_nil, frzE, ↓gInD, ↓vSortG, ↓vSortDT, ↓vAndB, ↓vOrB, dE, ↓tsT, pdsT, ↓tKeys_tk, lkT_E, putT_E])
section
variable {P : Program} {w : World} {K : PySem.W.Frag} {mg : Str → Option Value} {base : Heap}
def colS (m : List (List Int)) (k : Nat) : Int := (m.map fun r => at0 r k).sum
def posF (m : List (List Int)) : List Int := (List.range m.length).map fun k => colS m k - (m.getD k []).sum
theorem posF_len (m : List (List Int)) : (posF m).length = m.length := by unfold posF; rw [List.length_map, List.length_range]
theorem posF_at {m : List (List Int)} {k : Nat} (h : k < m.length) : at0 (posF m) k = colS m k - (m.getD k []).sum := at0_of (by unfold posF; rw [List.getElem?_map, List.getElem?_range h]; rfl)
structure PosI (n : Nat) (m : List (List Int)) (i j : Nat) (f : List Int) : Prop where
  len : f.length = n
  sum : sumF idF f = 0
  at_ : ∀ k, k < n → at0 f k = colS (m.take i) k + (if k < j then at0 (m.getD i []) k else 0) - (if k < i then (m.getD k []).sum else if k = i then ((m.getD i []).take j).sum else 0)
theorem colS_succ {m : List (List Int)} {i : Nat} {r : List Int} (h : m[i]? = some r) (k : Nat) : colS (m.take (i + 1)) k = colS (m.take i) k + at0 r k := by
  unfold colS
  rw [← take_snoc h, List.map_append, List.sum_append]; simp
theorem sum_zeros : ∀ n, sumF idF (List.replicate n 0) = 0
  | 0 => rfl
  | n + 1 => by rw [List.replicate_succ]; show (0 : Int) + sumF idF (List.replicate n 0) = 0; rw [sum_zeros n]; rfl
theorem PosI.start (n : Nat) (m : List (List Int)) : PosI n m 0 0 (List.replicate n 0) := by
  refine ⟨by simp, sum_zeros n, fun k _ => ?_⟩
  rw [at0_zero, if_neg (Nat.not_lt_zero _), if_neg (Nat.not_lt_zero _)]
  split <;> rfl
theorem PosI.step {n : Nat} {m : List (List Int)} {i j : Nat} {f r : List Int} {x : Int} (h : PosI n m i j f) (sq : Sq n m) (hr : m[i]? = some r) (hx : r[j]? = some x) :
    PosI n m i (j + 1) ((f.set i (at0 f i - x)).set j (at0 (f.set i (at0 f i - x)) j + x)) := by
  have il : i < n := by rw [← sq.len]; exact (List.getElem?_eq_some_iff.mp hr).1
  have rl := sq.row r (List.mem_of_getElem? hr)
  have jl : j < n := by rw [← rl]; exact (List.getElem?_eq_some_iff.mp hx).1
  have fi : i < f.length := by rw [h.len]; exact il
  have fj : j < f.length := by rw [h.len]; exact jl
  have er : m.getD i [] = r := by rw [List.getD_eq_getElem?_getD, hr]; rfl
  have st : (r.take (j + 1)).sum = (r.take j).sum + x := by rw [← take_snoc hx, List.sum_append]; simp
  have xe := at0_of hx
  refine ⟨by rw [List.length_set, List.length_set]; exact h.len, ?_, fun k hk => ?_⟩
  · rw [sumF_set _ (by rw [List.length_set]; exact fj), sumF_set _ fi, h.sum]
    unfold idF
    omega
  · have hk' := h.at_ k hk
    have hj' := h.at_ j jl
    rw [er] at hk' ⊢
    have e : at0 ((f.set i (at0 f i - x)).set j (at0 (f.set i (at0 f i - x)) j + x)) k = at0 f k - (if k = i then x else 0) + (if k = j then x else 0) := by
      rw [at0_set (by rw [List.length_set]; exact fj), at0_set fi, at0_set fi]
      by_cases e1 : k = j
      · rw [if_pos e1, if_pos e1]
        by_cases e2 : j = i
        · rw [if_pos e2, if_pos (e1.trans e2), e1, e2]
        · rw [if_neg e2, if_neg (fun z => e2 (e1.symm.trans z)), e1]; omega
      · rw [if_neg e1, if_neg e1]
        by_cases e2 : k = i
        · rw [if_pos e2, if_pos e2, e2]; omega
        · rw [if_neg e2, if_neg e2]; omega
    rw [e, hk']
    have z1 : (if k < j + 1 then at0 r k else 0) = (if k < j then at0 r k else 0) + (if k = j then x else 0) := by
      by_cases e1 : k = j
      · subst e1; rw [if_pos (Nat.lt_succ_self _), if_neg (Nat.lt_irrefl _), if_pos rfl, xe]; omega
      · rw [if_neg e1]
        by_cases e2 : k < j
        · rw [if_pos e2, if_pos (by omega)]; omega
        · rw [if_neg e2, if_neg (by omega)]; rfl
    rw [z1, st]
    by_cases e2 : k < i
    · rw [if_pos e2, if_pos e2, if_neg (show ¬ k = i by omega)]; omega
    · rw [if_neg e2, if_neg e2]
      by_cases e3 : k = i
      · rw [if_pos e3, if_pos e3, if_pos e3]; omega
      · rw [if_neg e3, if_neg e3, if_neg e3]; omega
theorem PosI.row {n : Nat} {m : List (List Int)} {i : Nat} {f r : List Int} (h : PosI n m i n f) (sq : Sq n m) (hr : m[i]? = some r) : PosI n m (i + 1) 0 f := by
  have rl := sq.row r (List.mem_of_getElem? hr)
  have er : m.getD i [] = r := by rw [List.getD_eq_getElem?_getD, hr]; rfl
  refine ⟨h.len, h.sum, fun k hk => ?_⟩
  rw [h.at_ k hk, colS_succ hr, er, if_pos hk, if_neg (Nat.not_lt_zero _), ← rl, List.take_length, List.take_zero]
  by_cases e2 : k < i
  · rw [if_pos e2, if_pos (by omega)]; omega
  · rw [if_neg e2]
    by_cases e3 : k = i
    · rw [if_pos e3, if_pos (by omega), e3, er]; omega
    · rw [if_neg e3, if_neg (show ¬ k < i + 1 by omega)]
      split <;> simp
theorem PosI.all {n : Nat} {m : List (List Int)} {f : List Int} (h : PosI n m n 0 f) (sq : Sq n m) : f = posF m ∧ sumF idF (posF m) = 0 := by
  have e : f = posF m := by
    apply at0_ext (by rw [h.len, posF_len, sq.len])
    intro k hk
    rw [h.len] at hk
    rw [h.at_ k hk, posF_at (by rw [sq.len]; exact hk), if_neg (Nat.not_lt_zero _), if_pos hk, ← sq.len, List.take_length]
    omega
  exact ⟨e, by rw [← e]; exact h.sum⟩
theorem lm_get {m : List (List Int)} {i : Nat} {t : T} (hi : (m.map fun xs => Li xs)[i]? = some t) : ∃ r, m[i]? = some r ∧ t = Li r := by
  rw [List.getElem?_map] at hi
  cases e : m[i]? with
  | none => rw [e] at hi; cases hi
  | some r => rw [e] at hi; cases hi; exact ⟨r, rfl, rfl⟩
theorem gInts_Li {g : List Int → (T → Prop) → Prop} {R : T → Prop} (xs : List Int) (h : g xs R) : gInts g [Li xs] R := by
  exact ⟨xs, rfl, h⟩
def W_positions : FnT := fun ts R => ∃ (n : Nat) (m : List (List Int)), ts = [Lm m] ∧ n ≤ 6 ∧ Sq n m ∧ (sumF idF (posF m) = 0 → R 1 (Li (posF m)) [])
set_option maxHeartbeats 4000000 in
theorem ok_positions {k : Nat} (G : Gs K mg) : FnOk P w K mg base CX0 (k + 1) G.g_positions.f G.g_positions.d ["matrix"] (spT K (allSh 1) W_positions) := by
  refine fnT (k := k + 0) G.g_positions.F sc_positions rfl (fun X cdv A outer s H E hX hr => ?_)
  subst hX
  refine ⟨_, (ts_cons (ts_set 1 sc_positions.nd rfl (.inl rfl) (tv_rep (tp_lst (tpa_cons tp_int tpa_nil)) (tp_callB call_len_seq caT_len (by rfl) G.z_len PySem.boot_len (tpa_cons (tp_var 0) tpa_nil))))
      (ts_cons (ts_for PassesOwn.never rfl (ti_enum (by rfl) G.z_enumerate (tva_cons 0 (tv_var 0) tva_nil)) (tg_tup rfl (tgs_cons (tg_name 2 sc_positions.nd rfl (.inl rfl)) (tgs_cons (tg_name 3 sc_positions.nd rfl (.inl rfl)) tgs_nil)) h2_len) (ts_one (ts_for PassesOwn.never rfl (ti_enum (by rfl) G.z_enumerate (tva_cons 0 (tv_var 3) tva_nil)) (tg_tup rfl (tgs_cons (tg_name 4 sc_positions.nd rfl (.inl rfl)) (tgs_cons (tg_name 5 sc_positions.nd rfl (.inl rfl)) tgs_nil)) h2_len) (ts_cons (ts_aug 1 ip_sub (tp_var 2) (tp_var 5))
      (ts_one (ts_aug 1 ip_add (tp_var 4) (tp_var 5)))))))
      (ts_one (ts_ret (tv_var 1))))), fun ts R hW hlen => ?_⟩

  obtain ⟨n, m, rfl, n6, sq, h⟩ := hW
  walk_at "RD"
  rw [List.length_map, Int.toNat_natCast, zeros_flat, sq.len]
  refine ⟨by omega, by omega, by omega, flats_ints _, fit0, fun i ρ => ∃ f x2 x3 x4 x5, PosI n m i 0 f ∧ ρ = [Ent.ow 0 (Lm m), Ent.ow 1 (Li f), x2, x3, x4, x5], ⟨_, _, _, _, _, PosI.start n m, rfl⟩, fun i t ρ hi hI => ?_, fun ρ hI => ?_⟩
  · obtain ⟨f, x2, x3, x4, x5, pi, rfl⟩ := hI
    obtain ⟨u, hu, rfl⟩ := enT_get.mp hi
    obtain ⟨r, hr, rfl⟩ := lm_get hu
    have il : i < n := by rw [← sq.len]; exact (List.getElem?_eq_some_iff.mp hr).1
    have rl := sq.row r (List.mem_of_getElem? hr)
    walk_at "RD"
    refine ⟨fit0, fun j ρ => ∃ f x4 x5, PosI n m i j f ∧ ρ = [Ent.ow 0 (Lm m), Ent.ow 1 (Li f), Ent.ow 0 (.int i), Ent.ow 0 (Li r), x4, x5], ⟨_, _, _, pi, rfl⟩, fun j t ρ hj hI => ?_, fun ρ hI => ?_⟩
    · obtain ⟨f, x4, x5, pi, rfl⟩ := hI
      obtain ⟨u, hu, rfl⟩ := enT_get.mp hj
      obtain ⟨x, hx, rfl⟩ := mapint_get.mp hu
      have jl : j < n := by rw [← rl]; exact (List.getElem?_eq_some_iff.mp hx).1
      have st := pi.step sq hr hx
      have fl := pi.len
      walk_at "RD"
      have e1 : ixN (f.map T.int).length (i : Int) = some i := ixN_nat (by rw [List.length_map, fl]; exact il)
      have e2 : (f.map T.int)[i]? = some (.int (at0 f i)) := by rw [List.getElem?_map, at0_get (by rw [fl]; exact il)]; rfl
      have e3 : (f.map T.int).set i (.int (at0 f i - x)) = (f.set i (at0 f i - x)).map T.int := by rw [List.map_set]
      have e4 : ixN ((f.set i (at0 f i - x)).map T.int).length (j : Int) = some j := ixN_nat (by rw [List.length_map, List.length_set, fl]; exact jl)
      have e5 : ((f.set i (at0 f i - x)).map T.int)[j]? = some (.int (at0 (f.set i (at0 f i - x)) j)) := by rw [List.getElem?_map, at0_get (by rw [List.length_set, fl]; exact jl)]; rfl
      simp only [e1, e2, e3, e4, e5]
      exact ⟨_, _, _, st, rfl⟩
    · obtain ⟨f, x4, x5, pi, rfl⟩ := hI
      have el : (enT (r.map T.int)).length = n := by unfold enT; rw [List.length_mapIdx, List.length_map, rl]
      rw [el] at pi
      exact ⟨f, _, _, _, _, pi.row sq hr, rfl⟩
  · obtain ⟨f, x2, x3, x4, x5, pi, rfl⟩ := hI
    have el : (enT (m.map fun xs => Li xs)).length = n := by unfold enT; rw [List.length_mapIdx, List.length_map, sq.len]
    rw [el] at pi
    obtain ⟨e, s0⟩ := pi.all sq
    subst e
    walk_at "RD"
    exact h s0
def W__law_positions : FnT := fun ts R => ∃ (n : Nat) (m : List (List Int)), ts = [Lm m] ∧ n ≤ 6 ∧ Sq n m ∧ R 1 (Li (posF m)) []
set_option maxHeartbeats 4000000 in
theorem ok__law_positions {k : Nat} (G : Gs K mg) : FnOk P w K mg base CX0 (k + 1) G.g__law_positions.f G.g__law_positions.d ["matrix"] (spT K (allSh 1) W__law_positions) := by
  refine fnT (k := k + 0) G.g__law_positions.F sc__law_positions rfl (fun X cdv A outer s H E hX hr => ?_)
  subst hX
  refine ⟨_, (ts_cons (ts_set 1 sc__law_positions.nd rfl (.inl rfl) (tv_p (tp_callB call_len_seq caT_len (by rfl) G.z_len PySem.boot_len (tpa_cons (tp_var 0) tpa_nil))))
      (ts_one (ts_ret (tv_lc (own := [("k", 2)]) 0 [2] rfl sc__law_positions.nd (ti_rng1 (by rfl) G.z_range (tp_var 1)) (blkOk_by (N := ["matrix", "size", "k", "row"]) (sc := defScope s__law_positions) (by decide +kernel)) (fun _ _ _ _ _ => (tg_name 2 sc__law_positions.nd rfl (.inr rfl))) (fun _ _ _ _ _ => tvts_nil) (fun _ _ _ _ _ => (tv_op op_sub opT_int (tv_callB (cr_sum rfl) caT_sum (by rfl) G.z_sum (by decide +kernel) (tva_cons 0 (tv_lc (own := [("row", 3)]) 0 [3] rfl sc__law_positions.nd (ti_lst (tv_var 0)) (blkOk_by (N := ["matrix", "size", "k", "row"]) (by rfl)) (fun _ _ _ _ _ => (tg_name 3 sc__law_positions.nd rfl (.inl rfl))) (fun _ _ _ _ _ => tvts_nil) (fun _ _ _ _ _ => (tv_p (tp_ix (tp_var 3) (tp_var 2) (fun _ _ => rfl)))) (by decide)) tva_nil)) (tv_p (tp_callB (cr_sum rfl) caT_sum (by rfl) G.z_sum (by decide +kernel) (tpa_cons (tp_ix (tp_var 0) (tp_var 2) (fun _ _ => rfl)) tpa_nil))))) (by decide))))), fun ts R hW hlen => ?_⟩

  obtain ⟨n, m, rfl, n6, sq, h⟩ := hW
  walk_at "RD"
  rw [List.length_map, sq.len, Int.toNat_natCast]
  refine ⟨rfl, by omega, by omega, fun i acc ρ => acc = ((List.range i).map fun k => colS m k - (m.getD k []).sum).map T.int ∧ ρ = [Ent.ow 0 (Lm m), Ent.ow 0 (.int n), Ent.no, Ent.no], ⟨rfl, rfl⟩, fun i t acc ρ hi hI => ?_, fun acc ρ hI => ?_⟩
  · obtain ⟨rfl, rfl⟩ := hI
    obtain ⟨il, rfl⟩ := rgT_get.mp hi
    rw [Int.zero_add]
    walk_at "RD"
    refine ⟨fun j acc ρ => acc = ((m.take j).map fun r => at0 r i).map T.int ∧ ρ = [Ent.ow 0 (Lm m), Ent.ow 0 (.int n), Ent.ow 0 (.int i), Ent.no], ⟨rfl, rfl⟩, fun j t acc ρ hj hI => ?_, fun acc ρ hI => ?_⟩
    · obtain ⟨rfl, rfl⟩ := hI
      obtain ⟨r, hr, rfl⟩ := lm_get hj
      have rl := sq.row r (List.mem_of_getElem? hr)
      have jl : j < n := by rw [← sq.len]; exact (List.getElem?_eq_some_iff.mp hr).1
      walk_at "RD"
      refine gIx_Li (at0_get (by omega)) ⟨rfl, fit0, by rw [List.length_map, List.length_map, List.length_take]; omega, ?_⟩
      rw [← take_snoc hr, List.map_append, List.map_append]; rfl
    · obtain ⟨rfl, rfl⟩ := hI
      rw [List.length_map, List.take_length]
      walk_at "RD"
      refine ⟨fit0, gInts_Li _ ⟨rfl, gIx_lst (by rw [List.getElem?_map, (sq.at il).1]; rfl) (gInts_Li _ ⟨rfl, rfl, fit0, ?_, ?_⟩)⟩⟩
      · rw [List.length_map, List.length_map, List.length_range]; omega
      · rw [List.range_succ, List.map_append, List.map_append]; rfl
  · obtain ⟨rfl, rfl⟩ := hI
    rw [rgT_len, ← sq.len]
    exact h
end
end K95
set_option Elab.async false
set_option linter.all false
set_option maxRecDepth 100000
namespace K95
open PySem PySem.Spec PyProof.Rows L2 L2H TL
local macro_rules | `(tactic| walk_at "RD") => `(tactic| simp -dsimp only [↓uSeq, ↓uNext, ↓uFor, ↓uSt, ↓uStV, ↓uAu, ↓uAp, ↓uApMv, ↓uAuN, ↓uAlias, ↓uDem, ↓uBrk, ↓uCnt, ↓uNev, ↓uRet, ↓uRetN, ↓uExp, ↓uExpP, ↓uRaise1, ↓wCallX, ↓uExpX, ↓uRetX, ↓uSetX, ↓uTryE, ↓uForD, ↓uAsgT, ↓wSlT, ↓gCatT, ↓uForV, ↓uForI, ↓uDp, ↓uSt2, ↓uAu2, ↓uAp2, ↓uDemK, ↓wDG1, ↓wDG2, ↓wDisp, ↓vKD, ↓vKG, ↓vKL, ↓vDN, ↓vLend, ↓gDG, ↓gDI, ↓gGet, ↓gLenA, ↓gStrI, ↓gTupl, ↓gDict, ↓iZp3, ↓TL.iRngV, kidT, ↓tKey_int, ↓tKey_str, ↓tKey_kT, ↓tKeyL, ↓tKeys, ↓ownD, kidsOf, ndSet, dput, dlook, noX, rdE, demK, ↓gLtT, ↓iRngD, ↓vSortP, ↓vCat, ↓vCatV, ↓gCat, ↓uSet, ↓uSetR, ↓uIf, ↓wVar, ↓wVarV, ↓wC, ↓w1, ↓w2, ↓wT, asB, ↓wChain, ↓wNil, ↓wCons, ↓wAnd, ↓wOr, ↓wNot, ↓wAndV, ↓wOrV, ↓wNotV, ↓wIf, ↓wCallP, ↓wCallV, ↓wCa, ↓wTup, ↓wLst, ↓oNon, ↓oSom, ↓wSlice, ↓wRev, ↓vP, ↓vSh, ↓vFit, ↓vaNil, ↓vaCons, ↓vLst, ↓vTup, ↓vTup0, ↓vList, ↓vRep, ↓vSlice, ↓cSl, ↓vCallN, ↓v1, ↓vCa, ↓vIx, ↓tP, ↓vAnd, ↓vOr, ↓vNot, ↓vIf, ↓vT, ↓v2, ↓vLc, ↓gI2, ↓gI2c, ↓gLen, ↓gII, ↓gI, ↓gInt1, ↓gRep, ↓gKids, ↓gIn, ↓iLst, ↓TL.iTup, ↓TL.iRng1, ↓TL.iRng2, ↓iEn, ↓iZp, ↓hName, ↓hCons, ↓hNil, ↓hTup, ↓wSl, ↓wIsi, ↓wYes, rho0, iniE, entOf, allSh, List.replicate, List.length_cons, List.length_nil, Nat.reduceAdd, Nat.reduceSub, Nat.reduceLT, Nat.reduceLeDiff, List.cons_append, List.nil_append, List.getElem?_cons_zero, List.getElem?_cons_succ, Option.bind_some, Ent.tr, Ent.own, Ent.put, setE, killA, noAl_ow, noAl_io1, noAl_no, noAl_ro, noAl_al', killJ_cons, killJ_nil0, noRo_ow, noRo_io, noRo_no, noRo_al, mem1, notIn, noRA_ow, noRA_io, noRA_no, noRA_al, Plc, demE, List.foldl_cons, List.foldl_nil, List.map_cons, List.map_nil, List.set_cons_zero, List.set_cons_succ, endsOf, ↓outsOf, Option.map_some, plSet, TL.putAt, T.put, true_and, and_true, lst_set, lst_snoc, lm_set, lm_snoc, shOnly, shE_ow0, shE_ow1, shE_io, shE_no, Option.isSome_some, reduceIte, if_true, if_false, Bool.false_eq_true, Nat.reduceEqDiff, ↓vRev, ↓vPure, frz_cons, frz_nil, frzE, ↓gInD, ↓vSortG, ↓vSortDT, ↓vAndB, ↓vOrB, dE, ↓tsT, pdsT, ↓tKeys_tk, lkT_E, putT_E])
section
variable {P : Program} {w : World} {K : PySem.W.Frag} {mg : Str → Option Value} {base : Heap}
def enT3 (e : En) : T := .tup [.int e.1, .int e.2.1, .int e.2.2]
def esT (es : List En) : T := .lst (es.map enT3)
def ixT (js : List Nat) : List T := (js.map fun j => ((j : Nat) : Int)).map T.int
theorem ixT_snoc (js : List Nat) (j : Nat) : ixT js ++ [.int (j : Nat)] = ixT (js ++ [j]) := by unfold ixT; rw [List.map_append, List.map_append]; rfl
theorem ixT_len (js : List Nat) : (ixT js).length = js.length := by unfold ixT; rw [List.length_map, List.length_map]
theorem ixT_flat (js : List Nat) {n : Nat} : (T.lst (ixT js)).flatAt (n + 1) = true := flatAt_Li
theorem filt_len2 {n i : Nat} (p : Nat → Bool) : ((List.range i).filter p).length ≤ i := Nat.le_trans (List.length_filter_le _ _) (by rw [List.length_range]; exact Nat.le_refl _)
theorem ixT_get {js : List Nat} {i : Nat} {t : T} (h : (ixT js)[i]? = some t) : ∃ j, js[i]? = some j ∧ t = .int (j : Nat) := by
  unfold ixT at h
  rw [List.getElem?_map, List.getElem?_map] at h
  cases e : js[i]? with
  | none => rw [e] at h; cases h
  | some j => rw [e] at h; cases h; exact ⟨j, rfl, rfl⟩
theorem filt_range {p : Nat → Bool} {i : Nat} (h : p i = true) : (List.range (i + 1)).filter p = (List.range i).filter p ++ [i] := by
  rw [List.range_succ, List.filter_append, List.filter_cons_of_pos h]; rfl
theorem filt_rangeF {p : Nat → Bool} {i : Nat} (h : ¬ p i = true) : (List.range (i + 1)).filter p = (List.range i).filter p := by
  rw [List.range_succ, List.filter_append, List.filter_cons_of_neg h, List.filter_nil, List.append_nil]
def W_net_tickets : FnT := fun ts R => ∃ (n : Nat) (m : List (List Int)), ts = [Lm m] ∧ n ≤ 6 ∧ Sq n m ∧ ∀ es, Net (posF m) es → es.length ≤ 6 → R 1 (esT es) []
set_option maxHeartbeats 4000000 in
theorem ok_net_tickets {k : Nat} (G : Gs K mg) : FnOk P w K mg base CX0 (k + 2) G.g_net_tickets.f G.g_net_tickets.d ["matrix"] (spT K (allSh 1) W_net_tickets) := by
  refine fnT (k := k + 1) G.g_net_tickets.F sc_net_tickets rfl (fun X cdv A outer s H E hX hr => ?_)
  subst hX
  refine ⟨_, (ts_cons (ts_set 1 sc_net_tickets.nd rfl (.inl rfl) (tv_callN (ok_positions (k := k + 0) G) hr (by rfl) G.g_positions.g G.g_positions.F.kp G.g_positions.b (tpa_cons (tp_var 0) tpa_nil)))
      (ts_cons (ts_setLcP (i := 2) (hc := rfl) (hN := sc_net_tickets.nd) (hy := rfl) (hyl := rfl) (hsw := sw_true rfl rfl rfl (by decide +kernel)) (own := [("house", 8), ("rest", 9)]) (k := 0) (js := [8, 9]) (hi := (ti_enum (by rfl) G.z_enumerate (tva_cons 0 (tv_var 1) tva_nil))) (ok := (blkOk_by (N := ["matrix", "rests", "debtors", "creditors", "found", "debtor", "creditor", "coins", "house", "rest"]) (sc := defScope s_net_tickets) (by decide +kernel))) (hg := fun _ _ _ _ _ => (tg_tup rfl (tgs_cons (tg_name 8 sc_net_tickets.nd rfl (.inl rfl)) (tgs_cons (tg_name 9 sc_net_tickets.nd rfl (.inl rfl)) tgs_nil)) h2_len)) (ht := fun _ _ _ _ _ => (tvts_one (tvt_p (tpt_cmp op_lt opT_bl (tp_var 9) tp_int (nomark _))))) (he := fun _ _ _ _ _ => (tv_p (tp_var 8))) (hj := by decide))
      (ts_cons (ts_setLcP (i := 3) (hc := rfl) (hN := sc_net_tickets.nd) (hy := rfl) (hyl := rfl) (hsw := sw_true rfl rfl rfl (by decide +kernel)) (own := [("house", 8), ("rest", 9)]) (k := 0) (js := [8, 9]) (hi := (ti_enum (by rfl) G.z_enumerate (tva_cons 0 (tv_var 1) tva_nil))) (ok := (blkOk_by (N := ["matrix", "rests", "debtors", "creditors", "found", "debtor", "creditor", "coins", "house", "rest"]) (sc := defScope s_net_tickets) (by decide +kernel))) (hg := fun _ _ _ _ _ => (tg_tup rfl (tgs_cons (tg_name 8 sc_net_tickets.nd rfl (.inl rfl)) (tgs_cons (tg_name 9 sc_net_tickets.nd rfl (.inl rfl)) tgs_nil)) h2_len)) (ht := fun _ _ _ _ _ => (tvts_one (tvt_p (tpt_cmp op_gt opT_bl (tp_var 9) tp_int (nomark _))))) (he := fun _ _ _ _ _ => (tv_p (tp_var 8))) (hj := by decide))
      (ts_cons (ts_set 4 sc_net_tickets.nd rfl (.inl rfl) (tv_lst 0 tva_nil (by simp) (by decide)))
      (ts_cons (ts1_dem [2, 3] (ts_for PassesOwn.never rfl (ti_lst (tv_var 2)) (tg_name 5 sc_net_tickets.nd rfl (.inl rfl)) (ts_one (ts_for PassesOwn.never rfl (ti_lst (tv_var 3)) (tg_name 6 sc_net_tickets.nd rfl (.inl rfl)) (ts_cons (ts_set 7 sc_net_tickets.nd rfl (.inl rfl) (tv_p (tp_callB (call_min2 rfl) caT_ii (by rfl) G.z_min (by decide +kernel) (tpa_cons (tp_un un_neg unT_int (tp_ix (tp_var 1) (tp_var 5) (fun _ _ => rfl))) (tpa_cons (tp_ix (tp_var 1) (tp_var 6) (fun _ _ => rfl)) tpa_nil)))))
      (ts_one (ts_if (tvt_p (tpt_cmp op_gt opT_bl (tp_var 7) tp_int (nomark _))) (ts_cons (ts_app 4 (tv_sh (tp_tup (tpa_cons (tp_var 5) (tpa_cons (tp_var 6) (tpa_cons (tp_var 7) tpa_nil))))))
      (ts_cons (ts_aug 1 ip_add (tp_var 5) (tp_var 7))
      (ts_one (ts_aug 1 ip_sub (tp_var 6) (tp_var 7))))) ts_nil)))))))
      (ts_one (ts_ret (tv_var 4)))))))), fun ts R hW hlen => ?_⟩

  obtain ⟨n, m, rfl, n6, sq, h⟩ := hW
  walk_at "RD"
  refine ⟨n, m, rfl, n6, sq, fun s0 => ?_⟩
  have pl : (posF m).length = n := by rw [posF_len, sq.len]
  generalize posF m = r at *
  refine ⟨flatAt_Li, fit0, ?_⟩
  show lcOk _ _ _ _ _ _ _ _ _
  refine ⟨fun i acc ρ => acc = ixT ((List.range i).filter fun k => decide (at0 r k < 0)) ∧ ρ = [Ent.ow 0 (Lm m), Ent.ow 0 (Li r), Ent.no, Ent.no, Ent.no, Ent.no, Ent.no, Ent.no, Ent.no, Ent.no], ⟨rfl, rfl⟩, fun i t acc ρ hi hI => ?_, fun acc ρ hI => ?_⟩
  · obtain ⟨rfl, rfl⟩ := hI
    obtain ⟨u, hu, rfl⟩ := enT_get.mp hi
    obtain ⟨x, hx, rfl⟩ := mapint_get.mp hu
    have il : i < n := by rw [← pl]; exact (List.getElem?_eq_some_iff.mp hx).1
    have xe := at0_of hx
    walk_at "RD"
    refine ifS (fun q => ⟨rfl, fit0, ?_, ?_⟩) fun q => ?_
    · rw [ixT_len]; have := filt_len2 (n := 0) (i := i) (fun k => decide (at0 r k < 0)); omega
    · rw [ixT_snoc, filt_range (p := fun k => decide (at0 r k < 0)) (by rw [xe]; exact q)]
    · rw [filt_rangeF (p := fun k => decide (at0 r k < 0)) (by rw [xe]; exact q)]
  obtain ⟨rfl, rfl⟩ := hI
  have el : (enT (r.map T.int)).length = r.length := by unfold enT; rw [List.length_mapIdx, List.length_map]
  rw [el]
  show _ ∧ _
  walk_at "RD"
  refine ⟨ixT_flat _, fit0, fun i acc ρ => acc = ixT ((List.range i).filter fun k => decide (0 < at0 r k)) ∧ ρ = [Ent.ow 0 (Lm m), Ent.ow 0 (Li r), Ent.ow 0 (.lst (ixT (negs r))), Ent.no, Ent.no, Ent.no, Ent.no, Ent.no, Ent.no, Ent.no], ⟨rfl, rfl⟩, fun i t acc ρ hi hI => ?_, fun acc ρ hI => ?_⟩
  · obtain ⟨rfl, rfl⟩ := hI
    obtain ⟨u, hu, rfl⟩ := enT_get.mp hi
    obtain ⟨x, hx, rfl⟩ := mapint_get.mp hu
    have il : i < n := by rw [← pl]; exact (List.getElem?_eq_some_iff.mp hx).1
    have xe := at0_of hx
    walk_at "RD"
    refine ifS (fun q => ⟨rfl, fit0, ?_, ?_⟩) fun q => ?_
    · rw [ixT_len]; have := filt_len2 (n := 0) (i := i) (fun k => decide (0 < at0 r k)); omega
    · rw [ixT_snoc, filt_range (p := fun k => decide (0 < at0 r k)) (by rw [xe]; exact q)]
    · rw [filt_rangeF (p := fun k => decide (0 < at0 r k)) (by rw [xe]; exact q)]
  obtain ⟨rfl, rfl⟩ := hI
  rw [el]
  show _ ∧ _
  walk_at "RD"
  refine ⟨ixT_flat _, ?_⟩
  refine ⟨fun i ρ => ∃ es l x5 x6 x7, PI r i 0 es l ∧ ρ = [Ent.ow 0 (Lm m), Ent.ow 1 (Li l), Ent.ow 0 (.lst (ixT (negs r))), Ent.ow 0 (.lst (ixT (poss r))), Ent.ow 1 (esT es), x5, x6, x7, Ent.no, Ent.no], ⟨_, _, _, _, _, PI.start r, rfl⟩, fun i t ρ hi hI => ?_, fun ρ hI => ?_⟩
  · obtain ⟨es, l, x5, x6, x7, pi, rfl⟩ := hI
    obtain ⟨d, hd, rfl⟩ := ixT_get hi
    walk_at "RD"
    refine ⟨fun j ρ => ∃ es l x6 x7, PI r i j es l ∧ ρ = [Ent.ow 0 (Lm m), Ent.ow 1 (Li l), Ent.ow 0 (.lst (ixT (negs r))), Ent.ow 0 (.lst (ixT (poss r))), Ent.ow 1 (esT es), Ent.ow 0 (.int (d : Nat)), x6, x7, Ent.no, Ent.no], ⟨_, _, _, _, pi, rfl⟩, fun j t ρ hj hI => ?_, fun ρ hI => ?_⟩
    · obtain ⟨es, l, x6, x7, pi, rfl⟩ := hI
      obtain ⟨c, hc, rfl⟩ := ixT_get hj
      obtain ⟨dl, cl, _, _, ne⟩ := pi.signs hd hc
      have nz := pi.run.nz
      unfold esT
      walk_at "RD"
      refine gIx_Li (at0_get dl) (gIx_Li (at0_get cl) ?_)
      have hmin : (if at0 l c < - at0 l d then at0 l c else - at0 l d) = min (- at0 l d) (at0 l c) := by split <;> omega
      walk_at "RD"
      rw [hmin]
      refine ⟨rfl, ifS (fun q => ?_) fun q => ⟨_, _, _, _, pi.skip hd hc (by simpa using q), rfl⟩⟩
      have mo := pi.move hd hc (by simpa using q)
      generalize min (- at0 l d) (at0 l c) = x at *
      have a1 := sumF_nonneg (f := nzF) (l := l) fun k _ => nzF_nonneg _
      have a2 := sumF_le (f := nzF) (fun x => by unfold nzF; split <;> omega) r
      have e1 : ixN (l.map T.int).length (d : Int) = some d := ixN_nat (by rw [List.length_map]; exact dl)
      have e2 : (l.map T.int)[d]? = some (.int (at0 l d)) := by rw [List.getElem?_map, at0_get dl]; rfl
      have e3 : (l.map T.int).set d (.int (at0 l d + x)) = (l.set d (at0 l d + x)).map T.int := by rw [List.map_set]
      have e4 : ixN ((l.set d (at0 l d + x)).map T.int).length (c : Int) = some c := ixN_nat (by rw [List.length_map, List.length_set]; exact cl)
      have e5 : ((l.set d (at0 l d + x)).map T.int)[c]? = some (.int (at0 (l.set d (at0 l d + x)) c)) := by rw [List.getElem?_map, at0_get (by rw [List.length_set]; exact cl)]; rfl
      simp only [e1, e2, e3, e4, e5]
      refine ⟨fit0, by rw [List.length_map]; omega, es ++ [(d, c, x)], mv l d c x, Ent.ow 0 (.int (c : Nat)), Ent.ow 0 (.int x), mo, ?_⟩
      rw [List.map_append (f := enT3)]
      rfl
    · obtain ⟨es, l, x6, x7, pi, rfl⟩ := hI
      rw [ixT_len] at pi
      exact ⟨es, l, _, _, _, pi.row hd s0, rfl⟩
  · obtain ⟨es, l, x5, x6, x7, pi, rfl⟩ := hI
    rw [ixT_len] at pi
    have z := pi.fin s0
    walk_at "RD"
    refine h es (pi.run.net z) ?_
    have nz := pi.run.nz
    have a1 := sumF_nonneg (f := nzF) (l := l) fun k _ => nzF_nonneg _
    have a2 := sumF_le (f := nzF) (fun x => by unfold nzF; split <;> omega) r
    omega
end
end K95
set_option Elab.async false
set_option linter.all false
set_option maxRecDepth 100000
namespace K95
open PySem PySem.Spec PyProof.Rows L2 L2H TL
local macro_rules | `(tactic| walk_at "RD") => `(tactic| simp -dsimp only [↓uSeq, ↓uNext, ↓uFor, ↓uSt, ↓uStV, ↓uAu, ↓uAp, ↓uApMv, ↓uAuN, ↓uAlias, ↓uDem, ↓uBrk, ↓uCnt, ↓uNev, ↓uRet, ↓uRetN, ↓uExp, ↓uExpP, ↓uRaise1, ↓wCallX, ↓uExpX, ↓uRetX, ↓uSetX, ↓uTryE, ↓uForD, ↓uAsgT, ↓wSlT, ↓gCatT, ↓uForV, ↓uForI, ↓uDp, ↓uSt2, ↓uAu2, ↓uAp2, ↓uDemK, ↓wDG1, ↓wDG2, ↓wDisp, ↓vKD, ↓vKG, ↓vKL, ↓vDN, ↓vLend, ↓gDG, ↓gDI, ↓gGet, ↓gLenA, ↓gStrI, ↓gTupl, ↓gDict, ↓iZp3, ↓TL.iRngV, kidT, ↓tKey_int, ↓tKey_str, ↓tKey_kT, ↓tKeyL, ↓tKeys, ↓ownD, kidsOf, ndSet, dput, dlook, noX, rdE, demK, ↓gLtT, ↓iRngD, ↓vSortP, ↓vCat, ↓vCatV, ↓gCat, ↓uSet, ↓uSetR, ↓uIf, ↓wVar, ↓wVarV, ↓wC, ↓w1, ↓w2, ↓wT, asB, ↓wChain, ↓wNil, ↓wCons, ↓wAnd, ↓wOr, ↓wNot, ↓wAndV, ↓wOrV, ↓wNotV, ↓wIf, ↓wCallP, ↓wCallV, ↓wCa, ↓wTup, ↓wLst, ↓oNon, ↓oSom, ↓wSlice, ↓wRev, ↓vP, ↓vSh, ↓vFit, ↓vaNil, ↓vaCons, ↓vLst, ↓vTup, ↓vTup0, ↓vList, ↓vRep, ↓vSlice, ↓cSl, ↓vCallN, ↓v1, ↓vCa, ↓vIx, ↓tP, ↓vAnd, ↓vOr, ↓vNot, ↓vIf, ↓vT, ↓v2, ↓vLc, ↓gI2, ↓gI2c, ↓gLen, ↓gII, ↓gI, ↓gInt1, ↓gRep, ↓gKids, ↓gIn, ↓iLst, ↓TL.iTup, ↓TL.iRng1, ↓TL.iRng2, ↓iEn, ↓iZp, ↓hName, ↓hCons, ↓hNil, ↓hTup, ↓wSl, ↓wIsi, ↓wYes, rho0, iniE, entOf, allSh, List.replicate, List.length_cons, List.length_nil, Nat.reduceAdd, Nat.reduceSub, Nat.reduceLT, Nat.reduceLeDiff, List.cons_append, List.nil_append, List.getElem?_cons_zero, List.getElem?_cons_succ, Option.bind_some, Ent.tr, Ent.own, Ent.put, setE, killA, noAl_ow, noAl_io1, noAl_no, noAl_ro, noAl_al', killJ_cons, killJ_nil0, noRo_ow, noRo_io, noRo_no, noRo_al, mem1, notIn, noRA_ow, noRA_io, noRA_no, noRA_al, Plc, demE, List.foldl_cons, List.foldl_nil, List.map_cons, List.map_nil, List.set_cons_zero, List.set_cons_succ, endsOf, ↓outsOf, Option.map_some, plSet, TL.putAt, T.put, true_and, and_true, lst_set, lst_snoc, lm_set, lm_snoc, shOnly, shE_ow0, shE_ow1, shE_io, shE_no, Option.isSome_some, reduceIte, if_true, if_false, Bool.false_eq_true, Nat.reduceEqDiff, ↓vRev, ↓vPure, frz_cons, frz_nil, frzE, ↓gInD, ↓vSortG, ↓vSortDT, ↓vAndB, ↓vOrB, dE, ↓tsT, pdsT, ↓tKeys_tk, lkT_E, putT_E])
section
variable {P : Program} {w : World} {K : PySem.W.Frag} {mg : Str → Option Value} {base : Heap}
theorem lawN_len (r : List Int) : ∀ t, (lawN r t).2.length = r.length ∧ (lawN r t).1.length ≤ t
  | 0 => ⟨rfl, Nat.le_refl _⟩
  | t + 1 => by
    obtain ⟨a, b⟩ := lawN_len r t
    rw [lawN]
    cases nst (lawN r t).2 with
    | none => exact ⟨a, Nat.le_succ_of_le b⟩
    | some e => exact ⟨by show (mv _ _ _ _).length = _; rw [mv_len]; exact a, by show (_ ++ [e]).length ≤ _; rw [List.length_append, List.length_singleton]; omega⟩
def W__law_netted : FnT := fun ts R => ∃ r : List Int, ts = [Li r] ∧ r.length ≤ 6 ∧ R 0 (esT (lawN r r.length).1) []
set_option maxHeartbeats 4000000 in
theorem ok__law_netted {k : Nat} (G : Gs K mg) : FnOk P w K mg base CX0 (k + 1) G.g__law_netted.f G.g__law_netted.d ["rests"] (spT K (allSh 1) W__law_netted) := by
  refine fnT (k := k + 0) G.g__law_netted.F sc__law_netted rfl (fun X cdv A outer s H E hX hr => ?_)
  subst hX
  refine ⟨_, (ts_cons (ts_set 1 sc__law_netted.nd rfl (.inl rfl) (tv_lst 0 tva_nil (by simp) (by decide)))
      (ts_cons (ts_set 2 sc__law_netted.nd rfl (.inr rfl) (tv_list (by rfl) G.z_list (tpa_cons (tp_var 0) tpa_nil)))
      (ts_cons (ts_for PassesOwn.never rfl (ti_rng1 (by rfl) G.z_range (tp_callB call_len_seq caT_len (by rfl) G.z_len PySem.boot_len (tpa_cons (tp_var 0) tpa_nil))) (tg_name 3 sc__law_netted.nd rfl (.inl rfl)) (ts_cons (ts_setLc (i := 4) (hc := rfl) (hN := sc__law_netted.nd) (hy := rfl) (hyl := rfl) (hsw := sw_true rfl rfl rfl (by decide +kernel)) (own := [("k", 7)]) (k := 0) (js := [7]) (hi := (ti_rng1 (by rfl) G.z_range (tp_callB call_len_seq caT_len (by rfl) G.z_len PySem.boot_len (tpa_cons (tp_var 2) tpa_nil)))) (ok := (blkOk_by (N := ["rests", "told", "left", "turn", "debtors", "creditors", "coins", "k"]) (sc := defScope s__law_netted) (by decide +kernel))) (hg := fun _ _ _ _ _ => (tg_name 7 sc__law_netted.nd rfl (.inl rfl))) (ht := fun _ _ _ _ _ => (tvts_one (tvt_p (tpt_cmp op_lt opT_bl (tp_ix (tp_var 2) (tp_var 7) (fun _ _ => rfl)) tp_int (nomark _))))) (he := fun _ _ _ _ _ => (tv_p (tp_var 7))) (hj := by decide))
      (ts_cons (ts_setLc (i := 5) (hc := rfl) (hN := sc__law_netted.nd) (hy := rfl) (hyl := rfl) (hsw := sw_true rfl rfl rfl (by decide +kernel)) (own := [("k", 7)]) (k := 0) (js := [7]) (hi := (ti_rng1 (by rfl) G.z_range (tp_callB call_len_seq caT_len (by rfl) G.z_len PySem.boot_len (tpa_cons (tp_var 2) tpa_nil)))) (ok := (blkOk_by (N := ["rests", "told", "left", "turn", "debtors", "creditors", "coins", "k"]) (sc := defScope s__law_netted) (by decide +kernel))) (hg := fun _ _ _ _ _ => (tg_name 7 sc__law_netted.nd rfl (.inl rfl))) (ht := fun _ _ _ _ _ => (tvts_one (tvt_p (tpt_cmp op_gt opT_bl (tp_ix (tp_var 2) (tp_var 7) (fun _ _ => rfl)) tp_int (nomark _))))) (he := fun _ _ _ _ _ => (tv_p (tp_var 7))) (hj := by decide))
      (ts_one (ts1_dem [4, 5] (ts_if (tvt_p (TPW.pt (tpw_and (tpt_cmp op_gt opT_bl (tp_callB call_len_seq caT_len (by rfl) G.z_len PySem.boot_len (tpa_cons (tp_var 4) tpa_nil)) tp_int (nomark _)) (tpw_and1 (tpt_cmp op_gt opT_bl (tp_callB call_len_seq caT_len (by rfl) G.z_len PySem.boot_len (tpa_cons (tp_var 5) tpa_nil)) tp_int (nomark _)))))) (ts_cons (ts_set 6 sc__law_netted.nd rfl (.inl rfl) (tv_p (tp_callB (call_min2 rfl) caT_ii (by rfl) G.z_min (by decide +kernel) (tpa_cons (tp_op op_sub opT_int tp_int (tp_ix (tp_var 2) (tp_ix (tp_var 4) tp_int (fun _ _ => rfl)) (fun _ _ => rfl))) (tpa_cons (tp_ix (tp_var 2) (tp_ix (tp_var 5) tp_int (fun _ _ => rfl)) (fun _ _ => rfl)) tpa_nil)))))
      (ts_cons (ts_app 1 (tv_sh (tp_tup (tpa_cons (tp_ix (tp_var 4) tp_int (fun _ _ => rfl)) (tpa_cons (tp_ix (tp_var 5) tp_int (fun _ _ => rfl)) (tpa_cons (tp_var 6) tpa_nil))))))
      (ts_cons (ts_store 2 (tv_p (tp_op op_add opT_int (tp_ix (tp_var 2) (tp_ix (tp_var 4) tp_int (fun _ _ => rfl)) (fun _ _ => rfl)) (tp_var 6))) (tp_ix (tp_var 4) tp_int (fun _ _ => rfl)))
      (ts_one (ts_store 2 (tv_p (tp_op op_sub opT_int (tp_ix (tp_var 2) (tp_ix (tp_var 5) tp_int (fun _ _ => rfl)) (fun _ _ => rfl)) (tp_var 6))) (tp_ix (tp_var 5) tp_int (fun _ _ => rfl))))))) ts_nil))))))
      (ts_one (ts_ret (tv_fit 0 (tv_var 1))))))), fun ts R hW hlen => ?_⟩

  obtain ⟨r, rfl, r6, h⟩ := hW
  walk_at "RD"
  rw [List.length_map, Int.toNat_natCast]
  refine ⟨flatAt_Li, by omega, by omega, fun t ρ => ∃ x3 x4 x5 x6 x7, ρ = [Ent.ow 0 (Li r), Ent.ow 1 (esT (lawN r t).1), Ent.ow 1 (Li (lawN r t).2), x3, x4, x5, x6, x7], ⟨_, _, _, _, _, rfl⟩, fun t u ρ hi hI => ?_, fun ρ hI => ?_⟩
  · obtain ⟨x3, x4, x5, x6, x7, rfl⟩ := hI
    obtain ⟨il, rfl⟩ := rgT_get.mp hi
    obtain ⟨ll, le⟩ := lawN_len r t
    have st : lawN r (t + 1) = match nst (lawN r t).2 with
      | some e => ((lawN r t).1 ++ [e], mv (lawN r t).2 e.1 e.2.1 e.2.2)
      | none => lawN r t := rfl
    generalize lawN r t = p0 at ll le st ⊢
    obtain ⟨es, l⟩ := p0
    replace ll : l.length = r.length := ll
    replace le : es.length ≤ t := le
    replace st : lawN r (t + 1) = match nst l with
      | some e => (es ++ [e], mv l e.1 e.2.1 e.2.2)
      | none => (es, l) := st
    show hName 3 _ [Ent.ow 0 (Li r), Ent.ow 1 (esT es), Ent.ow 1 (Li l), x3, x4, x5, x6, x7] _
    unfold esT
    walk_at "RD"
    rw [List.length_map, Int.toNat_natCast]
    have l6 : (l.map T.int).length ≤ 6 := by rw [List.length_map]; omega
    refine ⟨by omega, by omega, fun i acc ρ => ∃ y3 y4 y5 y6 y7, acc = ixT ((List.range i).filter fun k => decide (at0 l k < 0)) ∧ ρ = [Ent.ow 0 (Li r), Ent.ow 1 (esT es), Ent.ow 1 (Li l), y3, y4, y5, y6, y7], ⟨_, _, _, _, _, rfl, rfl⟩, fun i u acc ρ hi hI => ?_, fun acc ρ hI => ?_⟩
    · obtain ⟨y3, y4, y5, y6, y7, rfl, rfl⟩ := hI
      obtain ⟨il, rfl⟩ := rgT_get.mp hi
      rw [Int.zero_add]
      walk_at "RD"
      refine gIx_Li (at0_get il) (ifS (fun q => ⟨rfl, fit0, ?_, _, _, _, _, _, ?_, rfl⟩) fun q => ⟨_, _, _, _, _, ?_, rfl⟩)
      · rw [ixT_len]; have := filt_len2 (n := 0) (i := i) (fun k => decide (at0 l k < 0)); omega
      · rw [ixT_snoc, filt_range (p := fun k => decide (at0 l k < 0)) q]
      · rw [filt_rangeF (p := fun k => decide (at0 l k < 0)) q]
    obtain ⟨y3, y4, y5, y6, y7, rfl, rfl⟩ := hI
    rw [rgT_len]
    walk_at "RD"
    rw [List.length_map, Int.toNat_natCast]
    refine ⟨by omega, by omega, fun i acc ρ => ∃ y3 y5 y6 y7, acc = ixT ((List.range i).filter fun k => decide (0 < at0 l k)) ∧ ρ = [Ent.ow 0 (Li r), Ent.ow 1 (esT es), Ent.ow 1 (Li l), y3, Ent.ow 1 (.lst (ixT (negs l))), y5, y6, y7], ⟨_, _, _, _, rfl, rfl⟩, fun i u acc ρ hi hI => ?_, fun acc ρ hI => ?_⟩
    · obtain ⟨y3, y5, y6, y7, rfl, rfl⟩ := hI
      obtain ⟨il, rfl⟩ := rgT_get.mp hi
      rw [Int.zero_add]
      walk_at "RD"
      refine gIx_Li (at0_get il) (ifS (fun q => ⟨rfl, fit0, ?_, _, _, _, _, ?_, rfl⟩) fun q => ⟨_, _, _, _, ?_, rfl⟩)
      · rw [ixT_len]; have := filt_len2 (n := 0) (i := i) (fun k => decide (0 < at0 l k)); omega
      · rw [ixT_snoc, filt_range (p := fun k => decide (0 < at0 l k)) q]
      · rw [filt_rangeF (p := fun k => decide (0 < at0 l k)) q]
    obtain ⟨y3, y5, y6, y7, rfl, rfl⟩ := hI
    rw [rgT_len]
    have el : (List.range l.length).filter (fun k => decide (0 < at0 l k)) = poss l := rfl
    rw [el]
    unfold esT
    walk_at "RD"
    rw [ixT_len, ixT_len]
    have nm := @mem_negs l
    have pm := @mem_poss l
    cases hn : negs l with
    | nil =>
      have e : nst l = none := by unfold nst; rw [hn]; rfl
      rw [e] at st
      have s1 : (lawN r (t + 1)).1 = es := by rw [st]
      have s2 : (lawN r (t + 1)).2 = l := by rw [st]
      rw [s1, s2]
      refine ifF (by simp) ⟨_, _, _, _, _, rfl⟩
    | cons d ds =>
      refine ifT (by simp) ?_
      cases hp : poss l with
      | nil =>
        have e : nst l = none := by unfold nst; rw [hn, hp]; rfl
        rw [e] at st
        have s1 : (lawN r (t + 1)).1 = es := by rw [st]
        have s2 : (lawN r (t + 1)).2 = l := by rw [st]
        rw [s1, s2]
        refine ifF (by simp) ⟨_, _, _, _, _, rfl⟩
      | cons c cs =>
        have e : nst l = some (d, c, min (0 - at0 l d) (at0 l c)) := by unfold nst; rw [hn, hp]; rfl
        rw [e] at st
        have s1 : (lawN r (t + 1)).1 = es ++ [(d, c, min (0 - at0 l d) (at0 l c))] := by rw [st]
        have s2 : (lawN r (t + 1)).2 = mv l d c (min (0 - at0 l d) (at0 l c)) := by rw [st]
        rw [s1, s2]
        obtain ⟨dl, dn⟩ := nm.mp (by rw [hn]; exact List.mem_cons_self)
        obtain ⟨cl, cn⟩ := pm.mp (by rw [hp]; exact List.mem_cons_self)
        refine ifT (by simp) ?_
        refine gIx_lst (i := 0) (x := .int (d : Nat)) rfl (gIx_Li (at0_get dl) ?_)
        refine gIx_lst (i := 0) (x := .int (c : Nat)) rfl (gIx_Li (at0_get cl) ?_)
        have hmin : (if at0 l c < 0 - at0 l d then at0 l c else 0 - at0 l d) = min (0 - at0 l d) (at0 l c) := by split <;> omega
        walk_at "RD"
        rw [hmin]
        generalize min (0 - at0 l d) (at0 l c) = x
        refine ⟨rfl, gIx_lst (i := 0) (x := .int (d : Nat)) rfl (gIx_lst (i := 0) (x := .int (c : Nat)) rfl ⟨fit0, by rw [List.length_map]; omega, ?_⟩)⟩
        refine gIx_lst (i := 0) (x := .int (d : Nat)) rfl (gIx_Li (at0_get dl) ⟨rfl, gIx_lst (i := 0) (x := .int (d : Nat)) rfl ?_⟩)
        have e1 : ixN (l.map T.int).length (d : Int) = some d := ixN_nat (by rw [List.length_map]; exact dl)
        have e3 : (l.map T.int).set d (.int (at0 l d + x)) = (l.set d (at0 l d + x)).map T.int := by rw [List.map_set]
        have cl' : c < (l.set d (at0 l d + x)).length := by rw [List.length_set]; exact cl
        (first | walk_at "RD" | skip); repeat (simp -dsimp only [e1, e3]; first | walk_at "RD" | skip)
        refine ⟨fit0, ?_⟩
        refine gIx_lst (i := 0) (x := .int (c : Nat)) rfl (gIx_Li (at0_get cl') ⟨rfl, gIx_lst (i := 0) (x := .int (c : Nat)) rfl ?_⟩)
        have e4 : ixN ((l.set d (at0 l d + x)).map T.int).length (c : Int) = some c := ixN_nat (by rw [List.length_map]; exact cl')
        have e5 : ((l.set d (at0 l d + x)).map T.int).set c (.int (at0 (l.set d (at0 l d + x)) c - x)) = (mv l d c x).map T.int := by rw [← List.map_set]; rfl
        (first | walk_at "RD" | skip); repeat (simp -dsimp only [e4, e5]; first | walk_at "RD" | skip)
        rw [List.map_append (f := enT3)]
        exact ⟨fit0, _, _, _, _, _, rfl⟩
  · obtain ⟨x3, x4, x5, x6, x7, rfl⟩ := hI
    rw [rgT_len]
    unfold esT
    walk_at "RD"
    exact ⟨fit0, h⟩
end
end K95
set_option Elab.async false
set_option linter.all false
set_option maxRecDepth 100000
namespace K95
open PySem PySem.Spec PyProof.Rows L2 L2H TL
local macro_rules | `(tactic| walk_at "RD") => `(tactic| simp -dsimp only [↓uSeq, ↓uNext, ↓uFor, ↓uSt, ↓uStV, ↓uAu, ↓uAp, ↓uApMv, ↓uAuN, ↓uAlias, ↓uDem, ↓uBrk, ↓uCnt, ↓uNev, ↓uRet, ↓uRetN, ↓uExp, ↓uExpP, ↓uRaise1, ↓wCallX, ↓uExpX, ↓uRetX, ↓uSetX, ↓uTryE, ↓uForD, ↓uAsgT, ↓wSlT, ↓gCatT, ↓uForV, ↓uForI, ↓uDp, ↓uSt2, ↓uAu2, ↓uAp2, ↓uDemK, ↓wDG1, ↓wDG2, ↓wDisp, ↓vKD, ↓vKG, ↓vKL, ↓vDN, ↓vLend, ↓gDG, ↓gDI, ↓gGet, ↓gLenA, ↓gStrI, ↓gTupl, ↓gDict, ↓iZp3, ↓TL.iRngV, kidT, ↓tKey_int, ↓tKey_str, ↓tKey_kT, ↓tKeyL, ↓tKeys, ↓ownD, kidsOf, ndSet, dput, dlook, noX, rdE, demK, ↓gLtT, ↓iRngD, ↓vSortP, ↓vCat, ↓vCatV, ↓gCat, ↓uSet, ↓uSetR, ↓uIf, ↓wVar, ↓wVarV, ↓wC, ↓w1, ↓w2, ↓wT, asB, ↓wChain, ↓wNil, ↓wCons, ↓wAnd, ↓wOr, ↓wNot, ↓wAndV, ↓wOrV, ↓wNotV, ↓wIf, ↓wCallP, ↓wCallV, ↓wCa, ↓wTup, ↓wLst, ↓oNon, ↓oSom, ↓wSlice, ↓wRev, ↓vP, ↓vSh, ↓vFit, ↓vaNil, ↓vaCons, ↓vLst, ↓vTup, ↓vTup0, ↓vList, ↓vRep, ↓vSlice, ↓cSl, ↓vCallN, ↓v1, ↓vCa, ↓vIx, ↓tP, ↓vAnd, ↓vOr, ↓vNot, ↓vIf, ↓vT, ↓v2, ↓vLc, ↓gI2, ↓gI2c, ↓gLen, ↓gII, ↓gI, ↓gInt1, ↓gRep, ↓gKids, ↓gIn, ↓iLst, ↓TL.iTup, ↓TL.iRng1, ↓TL.iRng2, ↓iEn, ↓iZp, ↓hName, ↓hCons, ↓hNil, ↓hTup, ↓wSl, ↓wIsi, ↓wYes, rho0, iniE, entOf, allSh, List.replicate, List.length_cons, List.length_nil, Nat.reduceAdd, Nat.reduceSub, Nat.reduceLT, Nat.reduceLeDiff, List.cons_append, List.nil_append, List.getElem?_cons_zero, List.getElem?_cons_succ, Option.bind_some, Ent.tr, Ent.own, Ent.put, setE, killA, noAl_ow, noAl_io1, noAl_no, noAl_ro, noAl_al', killJ_cons, killJ_nil0, noRo_ow, noRo_io, noRo_no, noRo_al, mem1, notIn, noRA_ow, noRA_io, noRA_no, noRA_al, Plc, demE, List.foldl_cons, List.foldl_nil, List.map_cons, List.map_nil, List.set_cons_zero, List.set_cons_succ, endsOf, ↓outsOf, Option.map_some, plSet, TL.putAt, T.put, true_and, and_true, lst_set, lst_snoc, lm_set, lm_snoc, shOnly, shE_ow0, shE_ow1, shE_io, shE_no, Option.isSome_some, reduceIte, if_true, if_false, Bool.false_eq_true, Nat.reduceEqDiff, ↓vRev, ↓vPure, frz_cons, frz_nil, frzE, ↓gInD, ↓vSortG, ↓vSortDT, ↓vAndB, ↓vOrB, dE, ↓tsT, pdsT, ↓tKeys_tk, lkT_E, putT_E])
section
variable {P : Program} {w : World} {K : PySem.W.Frag} {mg : Str → Option Value} {base : Heap}
theorem gE0 {e : En} {R : T → Prop} : gIx (enT3 e) (.int 0) R = R (.int e.1) := rfl
theorem gE1 {e : En} {R : T → Prop} : gIx (enT3 e) (.int 1) R = R (.int e.2.1) := rfl
theorem gE2 {e : En} {R : T → Prop} : gIx (enT3 e) (.int 2) R = R (.int e.2.2) := rfl
theorem nz_filter : ∀ r : List Int, sumF nzF r = ((r.filter fun x => !decide (x = 0)).length : Int)
  | [] => rfl
  | x :: r => by
    have ih := nz_filter r
    show nzF x + sumF nzF r = _
    by_cases h : x = 0
    · rw [List.filter_cons_of_neg (by simpa using h), ih]; unfold nzF; rw [if_pos h]; omega
    · rw [List.filter_cons_of_pos (by simpa using h), ih, List.length_cons]; unfold nzF; rw [if_neg h]; push_cast; omega
theorem ps_filter : ∀ r : List Int, sumF psF r = (r.filter fun x => decide (0 < x)).sum
  | [] => rfl
  | x :: r => by
    have ih := ps_filter r
    show psF x + sumF psF r = _
    by_cases h : 0 < x
    · rw [List.filter_cons_of_pos (by simpa using h), ih, List.sum_cons]; unfold psF; rw [if_pos h]
    · rw [List.filter_cons_of_neg (by simpa using h), ih]; unfold psF; rw [if_neg h]; omega
def W__law_settles : FnT := fun ts R => ∃ (n : Nat) (m : List (List Int)) (es : List En), ts = [Lm m, esT es] ∧ n ≤ 6 ∧ Sq n m ∧ Net (posF m) es ∧ es.length ≤ 6 ∧ R 0 (.bl true) []
set_option maxHeartbeats 4000000 in
theorem ok__law_settles {k : Nat} (G : Gs K mg) : FnOk P w K mg base CX0 (k + 2) G.g__law_settles.f G.g__law_settles.d ["matrix", "told"] (spT K (allSh 2) W__law_settles) := by
  refine fnT (k := k + 1) G.g__law_settles.F sc__law_settles rfl (fun X cdv A outer s H E hX hr => ?_)
  subst hX
  refine ⟨_, (ts_cons (ts_set 2 sc__law_settles.nd rfl (.inl rfl) (tv_call (ok__law_positions (k := k + 0) G) hr (by rfl) G.g__law_positions.g G.g__law_positions.F.kp G.g__law_positions.b (tca_tv 0 (tv_var 0) tca_nil)))
      (ts_cons (ts1_dem [2] (ts_set 3 sc__law_settles.nd rfl (.inl rfl) (tv_p (tp_callB call_len_seq caT_len (by rfl) G.z_len PySem.boot_len (tpa_cons (tp_var 0) tpa_nil)))))
      (ts_cons (ts_if (TVW.pt (tvw_or (tvt_p (tpt_not (tpt_val (tp_isi .list (by rfl) G.z_isinstance (by rfl) G.z_list (by decide +kernel) (tp_var 1))))) (tvw_or1 (tvt_cmp op_gt opT_bl (tv_p (tp_callB call_len_seq caT_len (by rfl) G.z_len PySem.boot_len (tpa_cons (tp_var 1) tpa_nil))) (tv_callB (call_max2 rfl) caT_ii (by rfl) G.z_max (by decide +kernel) (tva_cons 0 (tv_p tp_int) (tva_cons 0 (tv_op op_sub opT_int (tv_callB call_len_seq caT_len (by rfl) G.z_len PySem.boot_len (tva_cons 0 (tv_lc (own := [("rest", 6)]) 0 [6] rfl sc__law_settles.nd (ti_lst (tv_var 2)) (blkOk_by (N := ["matrix", "told", "rests", "size", "gained", "row", "rest", "x"]) (sc := defScope s__law_settles) (by decide +kernel)) (fun _ _ _ _ _ => (tg_name 6 sc__law_settles.nd rfl (.inl rfl))) (fun _ _ _ _ _ => (tvts_one (tvt_p (tpt_cmp op_ne opT_neS (tp_var 6) tp_int (nomark _))))) (fun _ _ _ _ _ => (tv_p (tp_var 6))) (by decide)) tva_nil)) (tv_p tp_int)) tva_nil))) (nomark _))))) (ts_one (ts_ret (tv_p tp_bl))) ts_nil)
      (ts_cons (ts_set 4 sc__law_settles.nd rfl (.inl rfl) (tv_rep (tp_lst (tpa_cons tp_int tpa_nil)) (tp_var 3)))
      (ts_cons (ts_for PassesOwn.never rfl (ti_lst (tv_var 1)) (tg_name 5 sc__law_settles.nd rfl (.inl rfl)) (ts_cons (ts_if (TVW.pt (tvw_or (tvt_p (tpt_not (tpt_val (tp_isi .tup (by rfl) G.z_isinstance (by rfl) G.z_tuple (by decide +kernel) (tp_var 5))))) (tvw_or (tvt_p (tpt_cmp op_ne opT_neS (tp_callB call_len_seq caT_len (by rfl) G.z_len PySem.boot_len (tpa_cons (tp_var 5) tpa_nil)) tp_int (nomark _))) (tvw_or1 (tvt_cmp op_gt opT_bl (tv_callB call_len_seq caT_len (by rfl) G.z_len PySem.boot_len (tva_cons 0 (tv_lc (own := [("x", 7)]) 0 [7] rfl sc__law_settles.nd (ti_tup (tv_var 5)) (blkOk_by (N := ["matrix", "told", "rests", "size", "gained", "row", "rest", "x"]) (sc := defScope s__law_settles) (by decide +kernel)) (fun _ _ _ _ _ => (tg_name 7 sc__law_settles.nd rfl (.inl rfl))) (fun _ _ _ _ _ => (tvts_one (tvt_p (tpt_not (tpt_val (tp_call (ok__law_whole (k := k + 0) G) hr (by rfl) G.g__law_whole.g G.g__law_whole.F.kp G.g__law_whole.b (tpa_cons (tp_var 7) tpa_nil))))))) (fun _ _ _ _ _ => (tv_var 7)) (by decide)) tva_nil)) (tv_p tp_int) (nomark _)))))) (ts_one (ts_ret (tv_p tp_bl))) ts_nil)
      (ts_cons (ts_if (tvt_p (TPW.pt (tpw_or (tpt_not (tpt_chain op_le op_lt opT_bl opT_bl tp_int (tp_ix (tp_var 5) tp_int (fun _ _ => rfl)) (tp_var 3))) (tpw_or (tpt_not (tpt_chain op_le op_lt opT_bl opT_bl tp_int (tp_ix (tp_var 5) tp_int (fun _ _ => rfl)) (tp_var 3))) (tpw_or1 (tpt_cmp op_lt opT_bl (tp_ix (tp_var 5) tp_int (fun _ _ => rfl)) tp_int (nomark _))))))) (ts_one (ts_ret (tv_p tp_bl))) ts_nil)
      (ts_cons (ts_store 4 (tv_p (tp_op op_sub opT_int (tp_ix (tp_var 4) (tp_ix (tp_var 5) tp_int (fun _ _ => rfl)) (fun _ _ => rfl)) (tp_ix (tp_var 5) tp_int (fun _ _ => rfl)))) (tp_ix (tp_var 5) tp_int (fun _ _ => rfl)))
      (ts_one (ts_store 4 (tv_p (tp_op op_add opT_int (tp_ix (tp_var 4) (tp_ix (tp_var 5) tp_int (fun _ _ => rfl)) (fun _ _ => rfl)) (tp_ix (tp_var 5) tp_int (fun _ _ => rfl)))) (tp_ix (tp_var 5) tp_int (fun _ _ => rfl))))))))
      (ts_one (ts_ret (tv_andB (tv_p (tp_cmp (op_eqD (eqU hr)) opT_eqD (tp_var 4) (tp_var 2) (nomark _))) (tv_one (tv_cmp op_eq opT_eqS (tv_callB (cr_sum rfl) caT_sum (by rfl) G.z_sum (by decide +kernel) (tva_cons 0 (tv_lc (own := [("row", 5)]) 0 [5] rfl sc__law_settles.nd (ti_lst (tv_var 1)) (blkOk_by (N := ["matrix", "told", "rests", "size", "gained", "row", "rest", "x"]) (sc := defScope s__law_settles) (by decide +kernel)) (fun _ _ _ _ _ => (tg_name 5 sc__law_settles.nd rfl (.inl rfl))) (fun _ _ _ _ _ => tvts_nil) (fun _ _ _ _ _ => (tv_p (tp_ix (tp_var 5) tp_int (fun _ _ => rfl)))) (by decide)) tva_nil)) (tv_callB (cr_sum rfl) caT_sum (by rfl) G.z_sum (by decide +kernel) (tva_cons 0 (tv_lc (own := [("rest", 6)]) 0 [6] rfl sc__law_settles.nd (ti_lst (tv_var 2)) (blkOk_by (N := ["matrix", "told", "rests", "size", "gained", "row", "rest", "x"]) (sc := defScope s__law_settles) (by decide +kernel)) (fun _ _ _ _ _ => (tg_name 6 sc__law_settles.nd rfl (.inl rfl))) (fun _ _ _ _ _ => (tvts_one (tvt_p (tpt_cmp op_gt opT_bl (tp_var 6) tp_int (nomark _))))) (fun _ _ _ _ _ => (tv_p (tp_var 6))) (by decide)) tva_nil)) (nomark _))))))))))), fun ts R hW hlen => ?_⟩

  obtain ⟨n, m, es, rfl, n6, sq, net, e6, h⟩ := hW
  walk_at "RD"
  refine ⟨fit0, callS1 ⟨n, m, rfl, n6, sq, ?_⟩⟩
  have pl : (posF m).length = n := by rw [posF_len, sq.len]
  generalize posF m = r at *
  unfold esT
  walk_at "RD"
  have lm : (m.map fun xs => Li xs).length = n := by rw [List.length_map, sq.len]
  rw [lm]
  refine ⟨rfl, rfl, ifF (by simp [isT, T.tyn]) ⟨rfl, rfl, ?_⟩⟩
  refine ⟨fit0, fun i acc ρ => ∃ y5 y6 y7, acc = ((r.take i).filter fun x => !decide (x = 0)).map T.int ∧ ρ = [Ent.ow 0 (Lm m), Ent.ow 0 (esT es), Ent.ow 0 (Li r), Ent.ow 0 (.int n), Ent.no, y5, y6, y7], ?_, fun i t acc ρ hi hI => ?_, fun acc ρ hI => ?_⟩
  · exact ⟨_, _, _, rfl, rfl⟩
  · obtain ⟨y5, y6, y7, rfl, rfl⟩ := hI
    obtain ⟨x, hx, rfl⟩ := mapint_get.mp hi
    walk_at "RD"
    refine ifS (fun q => ⟨rfl, fit0, ?_, _, _, _, ?_, rfl⟩) fun q => ⟨_, _, _, ?_, rfl⟩
    · rw [List.length_map]
      have := List.length_filter_le (fun x : Int => !decide (x = 0)) (r.take i)
      rw [List.length_take] at this; omega
    · rw [filt_t hx (p := fun x => !decide (x = 0)) q, List.map_append]; rfl
    · rw [filt_f hx (p := fun x => !decide (x = 0)) q]
  obtain ⟨y5, y6, y7, rfl, rfl⟩ := hI
  rw [List.length_map, List.take_length]
  walk_at "RD"
  refine ⟨fit0, rfl, rfl, rfl, fit0, rfl, ?_⟩
  rw [List.length_map, List.length_map]
  have sh := net.short
  rw [nz_filter] at sh
  refine ⟨rfl, ifF (fun z => ?_) ?_⟩
  · have z := of_decide_eq_true z
    split at z <;> omega
  rw [Int.toNat_natCast, zeros_flat]
  refine ⟨by omega, by omega, by omega, flats_ints _, fun i ρ => ∃ x5 x6 x7, ρ = [Ent.ow 0 (Lm m), Ent.ow 0 (esT es), Ent.ow 0 (Li r), Ent.ow 0 (.int n), Ent.ow 1 (Li (gain n (es.take i))), x5, x6, x7], ⟨_, _, _, rfl⟩, fun i t ρ hi hI => ?_, fun ρ hI => ?_⟩
  · obtain ⟨x5, x6, x7, rfl⟩ := hI
    obtain ⟨⟨d, c, x⟩, he, rfl⟩ : ∃ e, es[i]? = some e ∧ t = enT3 e := by
      rw [List.getElem?_map] at hi
      cases q : es[i]? with
      | none => rw [q] at hi; cases hi
      | some e => rw [q] at hi; cases hi; exact ⟨e, rfl, rfl⟩
    obtain ⟨g1, g2, g3⟩ := net.good _ (List.mem_of_getElem? he)
    have gs : gain n (es.take (i + 1)) = gain n (es.take i ++ [(d, c, x)]) := by rw [take_snoc he]
    rw [gain_snoc] at gs
    have gl := gain_len n (es.take i)
    generalize gain n (es.take i) = g at *
    show hName _ (.tup [.int (d : Nat), .int (c : Nat), .int x]) _ _
    walk_at "RD"
    refine ⟨rfl, ifF (by simp [isT, T.tyn]) (ifF (by simp) ?_)⟩
    refine ⟨fun i acc ρ => ∃ y6 y7, acc = [] ∧ ρ = [Ent.ow 0 (Lm m), Ent.ow 0 (esT es), Ent.ow 0 (Li r), Ent.ow 0 (.int n), Ent.ow 1 (Li g), Ent.ow 0 (enT3 (d, c, x)), y6, y7], ⟨_, _, rfl, rfl⟩, fun k t acc ρ hk hI => ?_, fun acc ρ hI => ?_⟩
    · obtain ⟨y6, y7, rfl, rfl⟩ := hI
      obtain ⟨z, rfl⟩ : ∃ z : Int, t = .int z := by
        match k, hk with
        | 0, hk => cases hk; exact ⟨_, rfl⟩
        | 1, hk => cases hk; exact ⟨_, rfl⟩
        | 2, hk => cases hk; exact ⟨_, rfl⟩
        | _ + 3, hk => cases hk
      walk_at "RD"
      exact ⟨_, rfl, rfl, _, _, rfl⟩
    · obtain ⟨y6, y7, rfl, rfl⟩ := hI
      walk_at "RD"
      refine ⟨fit0, rfl, rfl, rfl, ifF (by simp) ?_⟩
      (first | walk_at "RD" | skip); repeat (simp -dsimp only [gE0, gE1, gE2]; first | walk_at "RD" | skip)
      have g1 : d < r.length := g1
      have g2 : c < r.length := g2
      have g3 : 1 ≤ x := g3
      have dl : d < g.length := by omega
      have cl : c < g.length := by omega
      have b1 : (d : Int) < n := by omega
      have b2 : (c : Int) < n := by omega
      refine ifT (decide_eq_true (by omega)) (ifF (by simp; omega) (ifT (decide_eq_true (by omega)) (ifF (by simp; omega) (ifF (by simp; omega) (gIx_Li (at0_get dl) ?_)))))
      have e1 : ixN (g.map T.int).length (d : Int) = some d := ixN_nat (by rw [List.length_map]; exact dl)
      have e3 : (g.map T.int).set d (.int (at0 g d - x)) = (g.set d (at0 g d - x)).map T.int := by rw [List.map_set]
      have cl' : c < (g.set d (at0 g d - x)).length := by rw [List.length_set]; exact cl
      have e4 : ixN ((g.set d (at0 g d - x)).map T.int).length (c : Int) = some c := ixN_nat (by rw [List.length_map]; exact cl')
      have e5 : ((g.set d (at0 g d - x)).map T.int).set c (.int (at0 (g.set d (at0 g d - x)) c + x)) = (gain n (es.take (i + 1))).map T.int := by rw [gs, List.map_set (l := g.set d _)]
      (first | walk_at "RD" | skip); repeat (simp -dsimp only [gE0, gE1, gE2, e1, e3]; first | walk_at "RD" | skip)
      refine ⟨rfl, fit0, gIx_Li (at0_get cl') ?_⟩
      (first | walk_at "RD" | skip); repeat (simp -dsimp only [gE0, gE1, gE2, e4, e5]; first | walk_at "RD" | skip)
      rw [gs]
      exact ⟨rfl, fit0, _, _, _, rfl⟩
  obtain ⟨x5, x6, x7, rfl⟩ := hI
  rw [List.length_map, List.take_length]
  have gn := net.gain
  have gc := net.coins
  rw [pl] at gn
  rw [gn]
  walk_at "RD"
  refine ⟨okd_eqok (n := 1) okd_Li (by omega), okd_eqok (n := 1) okd_Li (by omega), rfl, ifT (by rw [eqv_Li]; simp) ?_⟩
  show lcOk _ _ _ _ _ _ _ _ _
  refine ⟨fun i acc ρ => ∃ y5 y6 y7, acc = ((es.take i).map fun e => e.2.2).map T.int ∧ ρ = [Ent.ow 0 (Lm m), Ent.ow 0 (esT es), Ent.ow 0 (Li r), Ent.ow 0 (.int n), Ent.ow 1 (Li r), y5, y6, y7], ⟨_, _, _, rfl, rfl⟩, fun i t acc ρ hi hI => ?_, fun acc ρ hI => ?_⟩
  · obtain ⟨y5, y6, y7, rfl, rfl⟩ := hI
    obtain ⟨⟨d, c, x⟩, he, rfl⟩ : ∃ e, es[i]? = some e ∧ t = enT3 e := by
      rw [List.getElem?_map] at hi
      cases q : es[i]? with
      | none => rw [q] at hi; cases hi
      | some e => rw [q] at hi; cases hi; exact ⟨e, rfl, rfl⟩
    (first | walk_at "RD" | skip); repeat (simp -dsimp only [gE0, gE1, gE2]; first | walk_at "RD" | skip)
    refine ⟨rfl, fit0, ?_, _, _, _, ?_, rfl⟩
    · rw [List.length_map, List.length_map, List.length_take]; omega
    · rw [← take_snoc he, List.map_append, List.map_append]; rfl
  · obtain ⟨y5, y6, y7, rfl, rfl⟩ := hI
    rw [List.length_map, List.take_length]
    walk_at "RD"
    refine ⟨fit0, gInts_Li _ ⟨rfl, ?_⟩⟩
    refine ⟨fun i acc ρ => ∃ y5 y6 y7, acc = ((r.take i).filter fun x => decide (0 < x)).map T.int ∧ ρ = [Ent.ow 0 (Lm m), Ent.ow 0 (esT es), Ent.ow 0 (Li r), Ent.ow 0 (.int n), Ent.ow 1 (Li r), y5, y6, y7], ⟨_, _, _, rfl, rfl⟩, fun i t acc ρ hi hI => ?_, fun acc ρ hI => ?_⟩
    · obtain ⟨y5, y6, y7, rfl, rfl⟩ := hI
      obtain ⟨x, hx, rfl⟩ := mapint_get.mp hi
      walk_at "RD"
      refine ifS (fun q => ⟨rfl, fit0, ?_, _, _, _, ?_, rfl⟩) fun q => ⟨_, _, _, ?_, rfl⟩
      · rw [List.length_map]
        have := List.length_filter_le (fun x : Int => decide (0 < x)) (r.take i)
        rw [List.length_take] at this; omega
      · rw [filt_t hx (p := fun x => decide (0 < x)) q, List.map_append]; rfl
      · rw [filt_f hx (p := fun x => decide (0 < x)) q]
    · obtain ⟨y5, y6, y7, rfl, rfl⟩ := hI
      rw [List.length_map, List.take_length]
      walk_at "RD"
      refine ⟨fit0, gInts_Li _ ?_⟩
      have e : (es.map fun e => e.2.2).sum = (r.filter fun x => decide (0 < x)).sum := by rw [← ps_filter, ← gc]; rfl
      rw [e]
      refine ⟨rfl, rfl, ?_⟩
      simp only [decide_true]
      exact h
end
end K95
set_option Elab.async false
set_option linter.all false
set_option maxRecDepth 100000
namespace K95
open PySem PySem.Spec PyProof.Rows L2 L2H TL
local macro_rules | `(tactic| walk_at "RD") => `(tactic| simp -dsimp only [↓uSeq, ↓uNext, ↓uFor, ↓uSt, ↓uStV, ↓uAu, ↓uAp, ↓uApMv, ↓uAuN, ↓uAlias, ↓uDem, ↓uBrk, ↓uCnt, ↓uNev, ↓uRet, ↓uRetN, ↓uExp, ↓uExpP, ↓uRaise1, ↓wCallX, ↓uExpX, ↓uRetX, ↓uSetX, ↓uTryE, ↓uForD, ↓uAsgT, ↓wSlT, ↓gCatT, ↓uForV, ↓uForI, ↓uDp, ↓uSt2, ↓uAu2, ↓uAp2, ↓uDemK, ↓wDG1, ↓wDG2, ↓wDisp, ↓vKD, ↓vKG, ↓vKL, ↓vDN, ↓vLend, ↓gDG, ↓gDI, ↓gGet, ↓gLenA, ↓gStrI, ↓gTupl, ↓gDict, ↓iZp3, ↓TL.iRngV, kidT, ↓tKey_int, ↓tKey_str, ↓tKey_kT, ↓tKeyL, ↓tKeys, ↓ownD, kidsOf, ndSet, dput, dlook, noX, rdE, demK, ↓gLtT, ↓iRngD, ↓vSortP, ↓vCat, ↓vCatV, ↓gCat, ↓uSet, ↓uSetR, ↓uIf, ↓wVar, ↓wVarV, ↓wC, ↓w1, ↓w2, ↓wT, asB, ↓wChain, ↓wNil, ↓wCons, ↓wAnd, ↓wOr, ↓wNot, ↓wAndV, ↓wOrV, ↓wNotV, ↓wIf, ↓wCallP, ↓wCallV, ↓wCa, ↓wTup, ↓wLst, ↓oNon, ↓oSom, ↓wSlice, ↓wRev, ↓vP, ↓vSh, ↓vFit, ↓vaNil, ↓vaCons, ↓vLst, ↓vTup, ↓vTup0, ↓vList, ↓vRep, ↓vSlice, ↓cSl, ↓vCallN, ↓v1, ↓vCa, ↓vIx, ↓tP, ↓vAnd, ↓vOr, ↓vNot, ↓vIf, ↓vT, ↓v2, ↓vLc, ↓gI2, ↓gI2c, ↓gLen, ↓gII, ↓gI, ↓gInt1, ↓gRep, ↓gKids, ↓gIn, ↓iLst, ↓TL.iTup, ↓TL.iRng1, ↓TL.iRng2, ↓iEn, ↓iZp, ↓hName, ↓hCons, ↓hNil, ↓hTup, ↓wSl, ↓wIsi, ↓wYes, rho0, iniE, entOf, allSh, List.replicate, List.length_cons, List.length_nil, Nat.reduceAdd, Nat.reduceSub, Nat.reduceLT, Nat.reduceLeDiff, List.cons_append, List.nil_append, List.getElem?_cons_zero, List.getElem?_cons_succ, Option.bind_some, Ent.tr, Ent.own, Ent.put, setE, killA, noAl_ow, noAl_io1, noAl_no, noAl_ro, noAl_al', killJ_cons, killJ_nil0, noRo_ow, noRo_io, noRo_no, noRo_al, mem1, notIn, noRA_ow, noRA_io, noRA_no, noRA_al, Plc, demE, List.foldl_cons, List.foldl_nil, List.map_cons, List.map_nil, List.set_cons_zero, List.set_cons_succ, endsOf, ↓outsOf, Option.map_some, plSet, TL.putAt, T.put, true_and, and_true, lst_set, lst_snoc, lm_set, lm_snoc, shOnly, shE_ow0, shE_ow1, shE_io, shE_no, Option.isSome_some, reduceIte, if_true, if_false, Bool.false_eq_true, Nat.reduceEqDiff, ↓vRev, ↓vPure, frz_cons, frz_nil, frzE, ↓gInD, ↓vSortG, ↓vSortDT, ↓vAndB, ↓vOrB, dE, ↓tsT, pdsT, ↓tKeys_tk, lkT_E, putT_E])
section
variable {P : Program} {w : World} {K : PySem.W.Frag} {mg : Str → Option Value} {base : Heap}
def errT (c : Int) : T := .tup [.str "refused", .lst [.tup [.str "TooMuch", .int c]]]
def tmT (m : List (List Int)) : T := match over m with
  | none => Lm m
  | some c => errT c
def W__law_debts : FnT := fun ts R => ∃ (n : Nat) (tks : List Tk), ts = [.int n, tsT tks] ∧ n ≤ 6 ∧ InR n tks ∧ (over (debtM n tks) = none → R 0 (Lm (debtM n tks)) []) ∧ ∀ c, over (debtM n tks) = some c → R 2 (errT c) []
set_option maxHeartbeats 4000000 in
theorem ok__law_debts {k : Nat} (G : Gs K mg) : FnOk P w K mg base CX0 (k + 4) G.g__law_debts.f G.g__law_debts.d ["size", "tickets"] (spT K (allSh 2) W__law_debts) := by
  refine fnT (k := k + 3) G.g__law_debts.F sc__law_debts rfl (fun X cdv A outer s H E hX hr => ?_)
  subst hX
  refine ⟨_, (ts_one (ts_tryE 2 rfl rfl sc__law_debts.nd rfl rfl (by first | exact Or.inl rfl | exact Or.inr (Or.inl rfl) | exact Or.inr (Or.inr rfl)) ⟨rfl, by decide, .inl G.ga_PensionError⟩ takesN0 (ok__law_error (k := k + 2) G) hr (by rfl) G.g__law_error.g G.g__law_error.F.kp G.g__law_error.b (fun W0 pn0 xe0 tk0 po0 => (ts_one (ts_retX (tvx_call tk0 (ok_debts_of (k := k + 0) G) hr (by rfl) G.g_debts_of.g G.g_debts_of.F.kp G.g_debts_of.b (tva_cons 0 (tv_p (tp_var 0)) (tva_cons 0 (tv_var 1) tva_nil)))))))), fun ts R hW hlen => ?_⟩

  obtain ⟨n, tks, rfl, n6, hr, h1, h2⟩ := hW
  walk_at "RD"
  exact ⟨rfl, fit0, fit0, n, tks, rfl, n6, hr, h1, fun c hc => ⟨G.cp_TooMuch, .int c, rfl, rfl, rfl, h2 c hc⟩⟩
def W__law_too_much : FnT := fun ts R => ∃ (n : Nat) (m : List (List Int)), ts = [Lm m] ∧ n ≤ 6 ∧ Sq n m ∧ R 0 (tmT m) []
set_option maxHeartbeats 4000000 in
theorem ok__law_too_much {k : Nat} (G : Gs K mg) : FnOk P w K mg base CX0 (k + 1) G.g__law_too_much.f G.g__law_too_much.d ["matrix"] (spT K (allSh 1) W__law_too_much) := by
  refine fnT (k := k + 0) G.g__law_too_much.F sc__law_too_much rfl (fun X cdv A outer s H E hX hr => ?_)
  subst hX
  refine ⟨_, (ts_cons (ts_for PassesOwn.never rfl (ti_lst (tv_var 0)) (tg_name 1 sc__law_too_much.nd rfl (.inl rfl)) (ts_one (ts_for PassesOwn.never rfl (ti_lst (tv_var 1)) (tg_name 2 sc__law_too_much.nd rfl (.inl rfl)) (ts_one (ts_if (tvt_p (tpt_cmp op_gt opT_bl (tp_var 2) tp_int (nomark _))) (ts_one (ts_ret (tv_sh (tp_tup (tpa_cons tp_str (tpa_cons (tp_lst (tpa_cons (tp_tup (tpa_cons tp_str (tpa_cons (tp_var 2) tpa_nil))) tpa_nil)) tpa_nil)))))) ts_nil)))))
      (ts_one (ts_ret (tv_var 0)))), fun ts R hW hlen => ?_⟩

  obtain ⟨n, m, rfl, n6, sq, h⟩ := hW
  walk_at "RD"
  refine ⟨fun i ρ => ∃ x1 x2, ρ = [Ent.ow 0 (Lm m), x1, x2] ∧ over (m.take i) = none, ⟨_, _, rfl, rfl⟩, fun i t ρ hi hI => ?_, fun ρ hI => ?_⟩
  · obtain ⟨x1, x2, rfl, ho⟩ := hI
    obtain ⟨r, hr, rfl⟩ := lm_get hi
    walk_at "RD"
    refine ⟨fun j ρ => ∃ x2, ρ = [Ent.ow 0 (Lm m), Ent.ow 0 (Li r), x2] ∧ (r.take j).find? (fun c => decide (40 < c)) = none, ⟨_, rfl, rfl⟩, fun j t ρ hj hI => ?_, fun ρ hI => ?_⟩
    · obtain ⟨x2, rfl, hf⟩ := hI
      obtain ⟨c, hc, rfl⟩ := mapint_get.mp hj
      walk_at "RD"
      refine ifS (fun q => ?_) fun q => ⟨_, rfl, ?_⟩
      · have e := over_hit hr hc ho hf q
        unfold tmT at h
        rw [e] at h
        exact h
      · rw [← take_snoc hc, List.find?_append, hf, List.find?_cons_of_neg (p := fun c => decide (40 < c)) q]; rfl
    · obtain ⟨x2, rfl, hf⟩ := hI
      rw [List.length_map, List.take_length] at hf
      exact ⟨_, _, rfl, by rw [← take_snoc hr]; unfold over at ho ⊢; rw [List.flatten_append, List.find?_append, ho]; simpa using hf⟩
  · obtain ⟨x1, x2, rfl, ho⟩ := hI
    rw [List.length_map, List.take_length] at ho
    unfold tmT at h
    rw [ho] at h
    walk_at "RD"
    exact h
def W__law_matrix : FnT := fun ts R => ∃ (n : Nat) (tks : List Tk), ts = [.int n, tsT tks] ∧ n ≤ 6 ∧ InR n tks ∧ R 0 (Lm (debtM n tks)) []
set_option maxHeartbeats 4000000 in
theorem ok__law_matrix {k : Nat} (G : Gs K mg) : FnOk P w K mg base CX0 (k + 1) G.g__law_matrix.f G.g__law_matrix.d ["size", "tickets"] (spT K (allSh 2) W__law_matrix) := by
  refine fnT (k := k + 0) G.g__law_matrix.F sc__law_matrix rfl (fun X cdv A outer s H E hX hr => ?_)
  subst hX
  refine ⟨_, (ts_cons (ts_setLc (i := 2) (hc := rfl) (hN := sc__law_matrix.nd) (hy := rfl) (hyl := rfl) (hsw := sw_true rfl rfl rfl (by decide +kernel)) (own := [("k", 5)]) (k := 1) (js := [5]) (hi := (ti_rng1 (by rfl) G.z_range (tp_var 0))) (ok := (blkOk_by (N := ["size", "tickets", "matrix", "ticket", "row", "k"]) (sc := defScope s__law_matrix) (by decide +kernel))) (hg := fun _ _ _ _ _ => (tg_name 5 sc__law_matrix.nd rfl (.inl rfl))) (ht := fun _ _ _ _ _ => tvts_nil) (he := fun _ _ _ _ _ => (tv_rep (tp_lst (tpa_cons tp_int tpa_nil)) (tp_var 0))) (hj := by decide))
      (ts_cons (ts_for PassesOwn.never rfl (ti_lst (tv_var 1)) (tg_name 3 sc__law_matrix.nd rfl (.inl rfl)) (ts_cons (ts_alias 4 2 sc__law_matrix.nd rfl (.inl rfl) (tp_ix (tp_var 3) tp_int (fun _ _ => rfl)) (fun _ _ => rfl))
      (ts_one (ts_store 4 (tv_p (tp_op op_add opT_int (tp_ix (tp_var 4) (tp_ix (tp_var 3) tp_int (fun _ _ => rfl)) (fun _ _ => rfl)) (tp_ix (tp_var 3) tp_int (fun _ _ => rfl)))) (tp_ix (tp_var 3) tp_int (fun _ _ => rfl))))))
      (ts_one (ts_ret (tv_fit 0 (tv_var 2)))))), fun ts R hW hlen => ?_⟩

  obtain ⟨n, tks, rfl, n6, hr, h⟩ := hW
  walk_at "RD"
  rw [Int.toNat_natCast]
  refine ⟨by omega, by omega, fun i acc ρ => acc = accZ n i ∧ ρ = [Ent.ow 0 (.int n), Ent.ow 0 (tsT tks), Ent.no, Ent.no, Ent.no, Ent.no], ⟨rfl, rfl⟩, fun i t acc ρ hi hI => ?_, fun acc ρ hI => ?_⟩
  · obtain ⟨rfl, rfl⟩ := hI
    obtain ⟨il, rfl⟩ := rgT_get.mp hi
    walk_at "RD"
    rw [Int.toNat_natCast, zeros_flat]
    refine ⟨by omega, by omega, by omega, flats_ints _, .inl (Nat.le_refl _), by rw [accZ_len]; omega, ?_⟩
    exact accZ_succ n i
  · obtain ⟨rfl, rfl⟩ := hI
    rw [rgT_len]
    walk_at "RD"
    refine ⟨fun i ρ => ∃ x3 x4, ρ = [Ent.ow 0 (.int n), Ent.ow 0 (tsT tks), Ent.ow 2 (Lm (debtM n (tks.take i))), x3, x4, Ent.no], ⟨_, _, rfl⟩, fun i t ρ hi hI => ?_, fun ρ hI => ?_⟩
    · obtain ⟨x3, x4, rfl⟩ := hI
      obtain ⟨t, ht, rfl⟩ := tsT_get hi
      have hm := hr t (List.mem_of_getElem? ht)
      have sq := Sq.debt (hr.take i)
      have de := debt_step (n := n) ht
      generalize debtM n (tks.take i) = m at sq de
      obtain ⟨a, b, c, d⟩ := t
      obtain ⟨⟨a0, a1⟩, b0, b1⟩ := hm
      obtain ⟨a, rfl⟩ := Int.eq_ofNat_of_zero_le a0
      obtain ⟨b, rfl⟩ := Int.eq_ofNat_of_zero_le b0
      have a1 : a < n := by have : (a : Int) < n := a1; omega
      have b1 : b < n := by have : (b : Int) < n := b1; omega
      obtain ⟨q1, q2⟩ := sq.at a1
      have e1 : ixN (m.map fun xs => Li xs).length (a : Int) = some a := ixN_nat (by rw [List.length_map, sq.len]; exact a1)
      have e2 : ixN ((m.getD a []).map T.int).length (b : Int) = some b := ixN_nat (by rw [List.length_map, q2]; exact b1)
      have e3 : (m.map fun xs => Li xs)[a]? = some (Li (m.getD a [])) := by rw [List.getElem?_map, q1]; rfl
      have hb : b < (m.getD a []).length := by rw [q2]; exact b1
      (first | walk_at "RD" | skip); repeat (simp -dsimp only [g40, g41, g42, e1, e3]; first | walk_at "RD" | skip)
      refine ⟨by decide, gIx_Li (at0_get hb) ⟨rfl, ?_⟩⟩
      (first | walk_at "RD" | skip); repeat (simp -dsimp only [g40, g41, g42, e1, e2, e3]; first | walk_at "RD" | skip)
      rw [de]
      exact ⟨fit0, _, _, rfl⟩
    · obtain ⟨x3, x4, rfl⟩ := hI
      rw [List.length_map, List.take_length]
      walk_at "RD"
      exact ⟨fit0, h⟩
end
end K95
set_option Elab.async false
set_option linter.all false
set_option maxRecDepth 100000
namespace K95
open PySem PySem.Spec PyProof.Rows L2 L2H TL
local macro_rules | `(tactic| walk_at "RD") => `(tactic| simp -dsimp only [↓uSeq, ↓uNext, ↓uFor, ↓uSt, ↓uStV, ↓uAu, ↓uAp, ↓uApMv, ↓uAuN, ↓uAlias, ↓uDem, ↓uBrk, ↓uCnt, ↓uNev, ↓uRet, ↓uRetN, ↓uExp, ↓uExpP, ↓uRaise1, ↓wCallX, ↓uExpX, ↓uRetX, ↓uSetX, ↓uTryE, ↓uForD, ↓uAsgT, ↓wSlT, ↓gCatT, ↓uForV, ↓uForI, ↓uDp, ↓uSt2, ↓uAu2, ↓uAp2, ↓uDemK, ↓wDG1, ↓wDG2, ↓wDisp, ↓vKD, ↓vKG, ↓vKL, ↓vDN, ↓vLend, ↓gDG, ↓gDI, ↓gGet, ↓gLenA, ↓gStrI, ↓gTupl, ↓gDict, ↓iZp3, ↓TL.iRngV, kidT, ↓tKey_int, ↓tKey_str, ↓tKey_kT, ↓tKeyL, ↓tKeys, ↓ownD, kidsOf, ndSet, dput, dlook, noX, rdE, demK, ↓gLtT, ↓iRngD, ↓vSortP, ↓vCat, ↓vCatV, ↓gCat, ↓uSet, ↓uSetR, ↓uIf, ↓wVar, ↓wVarV, ↓wC, ↓w1, ↓w2, ↓wT, asB, ↓wChain, ↓wNil, ↓wCons, ↓wAnd, ↓wOr, ↓wNot, ↓wAndV, ↓wOrV, ↓wNotV, ↓wIf, ↓wCallP, ↓wCallV, ↓wCa, ↓wTup, ↓wLst, ↓oNon, ↓oSom, ↓wSlice, ↓wRev, ↓vP, ↓vSh, ↓vFit, ↓vaNil, ↓vaCons, ↓vLst, ↓vTup, ↓vTup0, ↓vList, ↓vRep, ↓vSlice, ↓cSl, ↓vCallN, ↓v1, ↓vCa, ↓vIx, ↓tP, ↓vAnd, ↓vOr, ↓vNot, ↓vIf, ↓vT, ↓v2, ↓vLc, ↓gI2, ↓gI2c, ↓gLen, ↓gII, ↓gI, ↓gInt1, ↓gRep, ↓gKids, ↓gIn, ↓iLst, ↓TL.iTup, ↓TL.iRng1, ↓TL.iRng2, ↓iEn, ↓iZp, ↓hName, ↓hCons, ↓hNil, ↓hTup, ↓wSl, ↓wIsi, ↓wYes, rho0, iniE, entOf, allSh, List.replicate, List.length_cons, List.length_nil, Nat.reduceAdd, Nat.reduceSub, Nat.reduceLT, Nat.reduceLeDiff, List.cons_append, List.nil_append, List.getElem?_cons_zero, List.getElem?_cons_succ, Option.bind_some, Ent.tr, Ent.own, Ent.put, setE, killA, noAl_ow, noAl_io1, noAl_no, noAl_ro, noAl_al', killJ_cons, killJ_nil0, noRo_ow, noRo_io, noRo_no, noRo_al, mem1, notIn, noRA_ow, noRA_io, noRA_no, noRA_al, Plc, demE, List.foldl_cons, List.foldl_nil, List.map_cons, List.map_nil, List.set_cons_zero, List.set_cons_succ, endsOf, ↓outsOf, Option.map_some, plSet, TL.putAt, T.put, true_and, and_true, lst_set, lst_snoc, lm_set, lm_snoc, shOnly, shE_ow0, shE_ow1, shE_io, shE_no, Option.isSome_some, reduceIte, if_true, if_false, Bool.false_eq_true, Nat.reduceEqDiff, ↓vRev, ↓vPure, frz_cons, frz_nil, frzE, ↓gInD, ↓vSortG, ↓vSortDT, ↓vAndB, ↓vOrB, dE, ↓tsT, pdsT, ↓tKeys_tk, lkT_E, putT_E])
section
variable {P : Program} {w : World} {K : PySem.W.Frag} {mg : Str → Option Value} {base : Heap}
def W__law_ticket : FnT := fun ts R => ∃ (a b c n : Int) (x y : Int), ts = [Li [a, b, c], .int n, Li [x, y]] ∧ 2 ≤ n ∧ n ≤ 6 ∧ ∀ (t : Tk) a' c', t.1 ≠ t.2.1 → (0 ≤ t.1 ∧ t.1 < n) → (0 ≤ t.2.1 ∧ t.2.1 < n) → R 0 (tkT t) [Li [a', b, c']]
set_option maxHeartbeats 4000000 in
theorem ok__law_ticket {k : Nat} (G : Gs K mg) : FnOk P w K mg base CX0 (k + 4) G.g__law_ticket.f G.g__law_ticket.d ["pool", "size", "menu"] (spT K [.io 1, .sh, .sh] W__law_ticket) := by
  refine fnT (k := k + 3) G.g__law_ticket.F sc__law_ticket rfl (fun X cdv A outer s H E hX hr => ?_)
  subst hX
  refine ⟨_, (ts_cons (ts_set 3 sc__law_ticket.nd rfl (.inl rfl) (tv_call (ok__law_draw (k := k + 1) G) hr (by rfl) G.g__law_draw.g G.g__law_draw.F.kp G.g__law_draw.b (tca_sl 0 (tca_tv 0 (tv_p (tp_var 1)) tca_nil))))
      (ts_cons (ts_set 4 sc__law_ticket.nd rfl (.inl rfl) (tv_op op_mod opT_intc (tv_callTy call_int1 caT_int1 (by rfl) G.z_int (by decide +kernel) (tva_cons 0 (tv_op op_add opT_int (tv_p (tp_op op_add opT_int (tp_var 3) tp_int)) (tv_call (ok__law_draw (k := k + 1) G) hr (by rfl) G.g__law_draw.g G.g__law_draw.F.kp G.g__law_draw.b (tca_sl 0 (tca_tv 0 (tv_p (tp_op op_sub opT_int (tp_var 1) tp_int)) tca_nil)))) tva_nil)) (tv_p (tp_var 1))))
      (ts_cons (ts_set 5 sc__law_ticket.nd rfl (.inl rfl) (tv_call (ok__law_pick (k := k + 0) G) hr (by rfl) G.g__law_pick.g G.g__law_pick.F.kp G.g__law_pick.b (tca_sl 0 (tca_tv 0 (tv_lst 0 (tva_cons 0 (tv_p tp_int) (tva_cons 0 (tv_p tp_int) (tva_cons 0 (tv_op op_add opT_int (tv_p tp_int) (tv_call (ok__law_draw (k := k + 1) G) hr (by rfl) G.g__law_draw.g G.g__law_draw.F.kp G.g__law_draw.b (tca_sl 0 (tca_tv 0 (tv_p tp_int) tca_nil)))) (tva_cons 0 (tv_call (ok__law_pick (k := k + 0) G) hr (by rfl) G.g__law_pick.g G.g__law_pick.F.kp G.g__law_pick.b (tca_sl 0 (tca_tv 0 (tv_var 2) tca_nil))) tva_nil)))) (by simp) (by decide)) tca_nil))))
      (ts_one (ts_ret (tv_tup0 (tva_cons 0 (tv_p (tp_var 3)) (tva_cons 0 (tv_p (tp_var 4)) (tva_cons 0 (tv_p (tp_var 5)) (tva_cons 0 (tv_call (ok__law_pick (k := k + 0) G) hr (by rfl) G.g__law_pick.g G.g__law_pick.F.kp G.g__law_pick.b (tca_sl 0 (tca_tv 0 (tv_lst 0 (tva_cons 0 (tv_p tp_int) (tva_cons 0 (tv_p tp_int) (tva_cons 0 (tv_call (ok__law_draw (k := k + 1) G) hr (by rfl) G.g__law_draw.g G.g__law_draw.F.kp G.g__law_draw.b (tca_sl 0 (tca_tv 0 (tv_p tp_int) tca_nil))) (tva_cons 0 (tv_p tp_int) tva_nil)))) (by simp) (by decide)) tca_nil))) tva_nil)))) (by simp) (by decide))))))), fun ts R hW hlen => ?_⟩

  obtain ⟨a, b, c, n, x, y, rfl, n2, n6, h⟩ := hW
  walk_at "RD"
  (repeat (first | refine ⟨rfl, ?_⟩ | refine ⟨fit0, ?_⟩))
  refine callDraw_io (m := n) (by omega) (by omega) fun d a1 c1 d0 d1 => ?_
  walk_at "RD"
  (repeat (first | refine ⟨rfl, ?_⟩ | refine ⟨fit0, ?_⟩))
  refine callDraw_io (m := n - 1) (by omega) (by omega) fun e a2 c2 e0 e1 => ?_
  walk_at "RD"
  (repeat (first | refine ⟨rfl, ?_⟩ | refine ⟨fit0, ?_⟩))
  refine ⟨by omega, ?_⟩
  (repeat (first | refine ⟨rfl, ?_⟩ | refine ⟨fit0, ?_⟩))
  refine callDraw_io (m := 40) (by omega) (by omega) fun f a3 c3 f0 f1 => ?_
  walk_at "RD"
  (repeat (first | refine ⟨rfl, ?_⟩ | refine ⟨fit0, ?_⟩))
  refine callPick_io (by show 0 < 2; decide) (by show 2 ≤ 1000; decide) fun v hv a4 c4 => ?_
  obtain ⟨v, rfl⟩ : ∃ z : Int, v = .int z := by
    obtain ⟨z, _, e⟩ := List.mem_map.mp hv
    exact ⟨z, e.symm⟩
  walk_at "RD"
  (repeat (first | refine ⟨rfl, ?_⟩ | refine ⟨fit0, ?_⟩))
  refine callPick_io (by show 0 < 4; decide) (by show 4 ≤ 1000; decide) fun u hu a5 c5 => ?_
  obtain ⟨u, rfl⟩ : ∃ z : Int, u = .int z := by
    simp only [List.mem_cons, List.not_mem_nil, or_false] at hu
    rcases hu with rfl | rfl | rfl | rfl <;> exact ⟨_, rfl⟩
  walk_at "RD"
  (repeat (first | refine ⟨rfl, ?_⟩ | refine ⟨fit0, ?_⟩))
  refine callDraw_io (m := 401) (by omega) (by omega) fun g a6 c6 f0 f1 => ?_
  walk_at "RD"
  (repeat (first | refine ⟨rfl, ?_⟩ | refine ⟨fit0, ?_⟩))
  refine callPick_io (by show 0 < 4; decide) (by show 4 ≤ 1000; decide) fun t ht a7 c7 => ?_
  obtain ⟨t, rfl⟩ : ∃ z : Int, t = .int z := by
    simp only [List.mem_cons, List.not_mem_nil, or_false] at ht
    rcases ht with rfl | rfl | rfl | rfl <;> exact ⟨_, rfl⟩
  walk_at "RD"
  (repeat (first | refine ⟨rfl, ?_⟩ | refine ⟨fit0, ?_⟩))
  refine h (d, (d + 1 + e) % n, u, t) a7 c7 ?_ ⟨d0, d1⟩ ?_
  · show d ≠ (d + 1 + e) % n
    have : n = 2 ∨ n = 3 ∨ n = 4 ∨ n = 5 ∨ n = 6 := by omega
    rcases this with rfl | rfl | rfl | rfl | rfl <;> omega
  · show 0 ≤ (d + 1 + e) % n ∧ (d + 1 + e) % n < n
    exact ⟨Int.emod_nonneg _ (by omega), Int.emod_lt_of_pos _ (by omega)⟩
def TkOk (n : Nat) (i : Nat) (t : Tk) : Prop := t.1 ≠ t.2.1 ∧ (0 ≤ t.1 ∧ t.1 < n) ∧ (0 ≤ t.2.1 ∧ t.2.1 < n) ∧ (t.1 = i ∨ t.2.1 = i)
structure HL (n b : Nat) (ls : List (List Tk)) : Prop where
  len : ls.length = n
  each : ∀ (i : Nat) (l : List Tk), ls[i]? = some l → l.length ≤ b ∧ ∀ t ∈ l, TkOk n i t
theorem HL.up {n b b' : Nat} {ls : List (List Tk)} (h : HL n b ls) (hb : b ≤ b') : HL n b' ls := ⟨h.len, fun i l e => ⟨Nat.le_trans (h.each i l e).1 hb, (h.each i l e).2⟩⟩
theorem HL.set {n b : Nat} {ls : List (List Tk)} {i : Nat} {l' : List Tk} (h : HL n b ls) (hl : l'.length ≤ b) (ht : ∀ t ∈ l', TkOk n i t) : HL n b (ls.set i l') := by
  refine ⟨by rw [List.length_set]; exact h.len, fun j l e => ?_⟩
  by_cases q : i = j
  · subst q
    by_cases z : i < ls.length
    · rw [List.getElem?_set_self z] at e; cases e; exact ⟨hl, ht⟩
    · rw [List.getElem?_eq_none (by rw [List.length_set]; omega)] at e; cases e
  · rw [List.getElem?_set_ne q] at e; exact h.each j l e
theorem HL.add {n b : Nat} {ls : List (List Tk)} {i : Nat} {l : List Tk} {t : Tk} (h : HL n b ls) (hl : ls[i]? = some l) (ht : TkOk n i t) : HL n (b + 1) (ls.set i (l ++ [t])) := by
  obtain ⟨a1, a2⟩ := h.each i l hl
  refine (h.up (Nat.le_succ b)).set (by rw [List.length_append, List.length_singleton]; omega) fun u hu => ?_
  rcases List.mem_append.mp hu with z | z
  · exact a2 u z
  · rw [List.mem_singleton.mp z]; exact ht
theorem HL.ok {n : Nat} {ls : List (List Tk)} (h : HL n 100 ls) (n6 : n ≤ 6) : OkL ls := ⟨by rw [h.len]; exact n6, fun i l e => ⟨(h.each i l e).1, fun t ht => by
  obtain ⟨a, b, c, d⟩ := (h.each i l e).2 t ht
  rw [h.len]
  exact ⟨a, b, c, d⟩⟩⟩
theorem HL.get {n b : Nat} {ls : List (List Tk)} (h : HL n b ls) {i : Nat} (hi : i < n) : ∃ l, ls[i]? = some l := ⟨_, List.getElem?_eq_getElem (by rw [h.len]; exact hi)⟩
def accL (i : Nat) : List T := (List.replicate i ([] : List Tk)).map tsT
theorem accL_succ (i : Nat) : accL i ++ [T.lst []] = accL (i + 1) := by unfold accL; rw [List.replicate_succ', List.map_append]; rfl
theorem accL_len (i : Nat) : (accL i).length = i := by unfold accL; rw [List.length_map, List.length_replicate]
theorem HL.nil (n : Nat) : HL n 0 (List.replicate n []) := ⟨by simp, fun i l e => by
  rw [List.getElem?_replicate] at e
  split at e
  · cases e; exact ⟨Nat.le_refl _, fun t h => absurd h (by simp)⟩
  · cases e⟩
def W__law_heard : FnT := fun ts R => ∃ (a b c : Int) (n : Nat), ts = [Li [a, b, c], .int n] ∧ 2 ≤ n ∧ n ≤ 6 ∧ ∀ ls a' c', HL n 100 ls → R 0 (hsT ls) [Li [a', b, c']]
theorem callTicket {R : Nat → T → List Ent → Prop} {u : KDep R} {a b c n x y : Int} {z : T} {ρ : List Ent} (n2 : 2 ≤ n) (n6 : n ≤ 6) (h : ∀ (t : Tk) a' c', t.1 ≠ t.2.1 → (0 ≤ t.1 ∧ t.1 < n) → (0 ≤ t.2.1 ∧ t.2.1 < n) → R 0 (tkT t) (.io 1 (Li [a', b, c']) :: killJ [0] ρ)) :
    callAt [.io 1, .sh, .sh] [.sl 0, .tv 0, .tv 0] W__law_ticket R u [z, .int n, Li [x, y]] (.io 1 (Li [a, b, c]) :: ρ) := by
  have e : inT (.io 1 (Li [a, b, c]) :: ρ) [.io 1, .sh, .sh] [.sl 0, .tv 0, .tv 0] [z, .int n, Li [x, y]] = some [Li [a, b, c], .int n, Li [x, y]] := by simp [inT, Ent.own]
  unfold callAt
  rw [e]
  refine ⟨a, b, c, n, x, y, rfl, n2, n6, fun t a' c' h1 h2 h3 => ?_⟩
  show R 0 (tkT t) (putL [(0, Li [a', b, c'])] 0 (.io 1 (Li [a, b, c]) :: killJ [0] ρ))
  rw [putL_0]
  exact h t a' c' h1 h2 h3
set_option maxHeartbeats 4000000 in
theorem ok__law_heard {k : Nat} (G : Gs K mg) : FnOk P w K mg base CX0 (k + 5) G.g__law_heard.f G.g__law_heard.d ["pool", "size"] (spT K [.io 1, .sh] W__law_heard) := by
  refine fnT (k := k + 4) G.g__law_heard.F sc__law_heard rfl (fun X cdv A outer s H E hX hr => ?_)
  subst hX
  refine ⟨_, (ts_cons (ts_setLc (i := 2) (hc := rfl) (hN := sc__law_heard.nd) (hy := rfl) (hyl := rfl) (hsw := sw_true rfl rfl rfl (by decide +kernel)) (own := [("k", 4)]) (k := 1) (js := [4]) (hi := (ti_rng1 (by rfl) G.z_range (tp_var 1))) (ok := (blkOk_by (N := ["pool", "size", "lists", "menu", "k", "turn", "ticket"]) (sc := defScope s__law_heard) (by decide +kernel))) (hg := fun _ _ _ _ _ => (tg_name 4 sc__law_heard.nd rfl (.inl rfl))) (ht := fun _ _ _ _ _ => tvts_nil) (he := fun _ _ _ _ _ => (tv_lst 0 tva_nil (by simp) (by decide))) (hj := by decide))
      (ts_cons (ts_set 3 sc__law_heard.nd rfl (.inl rfl) (tv_lst 0 (tva_cons 0 (tv_op op_add opT_int (tv_p tp_int) (tv_call (ok__law_draw (k := k + 2) G) hr (by rfl) G.g__law_draw.g G.g__law_draw.F.kp G.g__law_draw.b (tca_sl 0 (tca_tv 0 (tv_p tp_int) tca_nil)))) (tva_cons 0 (tv_op op_add opT_int (tv_p tp_int) (tv_call (ok__law_draw (k := k + 2) G) hr (by rfl) G.g__law_draw.g G.g__law_draw.F.kp G.g__law_draw.b (tca_sl 0 (tca_tv 0 (tv_p tp_int) tca_nil)))) tva_nil)) (by simp) (by decide)))
      (ts_cons (ts1_dem [3] (ts_for PassesOwn.never rfl (ti_rngV (by rfl) G.z_range (tv_call (ok__law_draw (k := k + 2) G) hr (by rfl) G.g__law_draw.g G.g__law_draw.F.kp G.g__law_draw.b (tca_sl 0 (tca_tv 0 (tv_p tp_int) tca_nil)))) (tg_name 4 sc__law_heard.nd rfl (.inl rfl)) (ts_cons (ts_set 6 sc__law_heard.nd rfl (.inl rfl) (tv_call (ok__law_ticket (k := k + 0) G) hr (by rfl) G.g__law_ticket.g G.g__law_ticket.F.kp G.g__law_ticket.b (tca_sl 0 (tca_tv 0 (tv_p (tp_var 1)) (tca_tv 0 (tv_var 3) tca_nil)))))
      (ts_cons (ts_set 5 sc__law_heard.nd rfl (.inl rfl) (tv_call (ok__law_draw (k := k + 2) G) hr (by rfl) G.g__law_draw.g G.g__law_draw.F.kp G.g__law_draw.b (tca_sl 0 (tca_tv 0 (tv_p tp_int) tca_nil))))
      (ts_consM (ts_if (tvt_p (tpt_cmp op_ne opT_neS (tp_var 5) tp_int (nomark _))) (ts_one (ts_app2 2 (tp_ix (tp_var 6) tp_int (fun _ _ => rfl)) (tp_var 6))) ts_nil)
      (ts_consM (ts_if (tvt_p (tpt_cmp op_ne opT_neS (tp_var 5) tp_int (nomark _))) (ts_one (ts_app2 2 (tp_ix (tp_var 6) tp_int (fun _ _ => rfl)) (tp_var 6))) ts_nil)
      (ts_consM (ts_if (tvt_p (tpt_cmp op_eq opT_eqS (tp_var 5) tp_int (nomark _))) (ts_one (ts_app2 2 (tp_ix (tp_var 6) tp_int (fun _ _ => rfl)) (tp_var 6))) ts_nil)
      (ts_one (ts_if (tvt_p (tpt_cmp op_eq opT_eqS (tp_var 5) tp_int (nomark _))) (ts_one (ts_app2 2 (tp_ix (tp_var 6) tp_int (fun _ _ => rfl)) (tp_tup (tpa_cons (tp_ix (tp_var 6) tp_int (fun _ _ => rfl)) (tpa_cons (tp_ix (tp_var 6) tp_int (fun _ _ => rfl)) (tpa_cons (tp_ix (tp_var 6) tp_int (fun _ _ => rfl)) (tpa_cons (tp_op op_mod opT_intc (tp_callTy call_int1 caT_int1 (by rfl) G.z_int (by decide +kernel) (tpa_cons (tp_op op_add opT_int (tp_ix (tp_var 6) tp_int (fun _ _ => rfl)) tp_int) tpa_nil)) tp_int) tpa_nil))))))) ts_nil)))))))))
      (ts_cons (ts_set 5 sc__law_heard.nd rfl (.inl rfl) (tv_call (ok__law_draw (k := k + 2) G) hr (by rfl) G.g__law_draw.g G.g__law_draw.F.kp G.g__law_draw.b (tca_sl 0 (tca_tv 0 (tv_p (tp_var 1)) tca_nil))))
      (ts_cons (ts_store 2 (tv_rev (tp_ix (tp_var 2) (tp_var 5) (fun _ _ => rfl))) (tp_var 5))
      (ts_one (ts_ret (tv_fit 0 (tv_var 2))))))))), fun ts R hW hlen => ?_⟩

  obtain ⟨a, b, c, n, rfl, n2, n6, h⟩ := hW
  walk_at "RD"
  rw [Int.toNat_natCast]
  refine ⟨by omega, by omega, fun i acc ρ => acc = accL i ∧ ρ = [Ent.io 1 (Li [a, b, c]), Ent.ow 0 (.int n), Ent.no, Ent.no, Ent.no, Ent.no, Ent.no], ⟨rfl, rfl⟩, fun i t acc ρ hi hI => ?_, fun acc ρ hI => ?_⟩
  · obtain ⟨rfl, rfl⟩ := hI
    obtain ⟨il, rfl⟩ := rgT_get.mp hi
    walk_at "RD"
    exact ⟨.inl (Nat.le_refl _), by rw [accL_len]; omega, accL_succ i⟩
  obtain ⟨rfl, rfl⟩ := hI
  rw [rgT_len]
  walk_at "RD"
  (repeat (first | refine ⟨rfl, ?_⟩ | refine ⟨fit0, ?_⟩))
  refine callDraw_io (m := 40) (by omega) (by omega) fun d1 a1 c1 l1 u1 => ?_
  walk_at "RD"
  (repeat (first | refine ⟨rfl, ?_⟩ | refine ⟨fit0, ?_⟩))
  refine callDraw_io (m := 5) (by omega) (by omega) fun d2 a2 c2 l2 u2 => ?_
  walk_at "RD"
  (repeat (first | refine ⟨rfl, ?_⟩ | refine ⟨fit0, ?_⟩))
  refine callDraw_io (m := 13) (by omega) (by omega) fun d3 a3 c3 l3 u3 => ?_
  walk_at "RD"
  obtain ⟨d3, rfl⟩ := Int.eq_ofNat_of_zero_le l3
  rw [Int.toNat_natCast]
  refine ⟨by omega, by omega, fun i ρ => ∃ ls a c x4 x5 x6, HL n (4 * i) ls ∧ ρ = [Ent.io 1 (Li [a, b, c]), Ent.ow 0 (.int n), Ent.ow 2 (hsT ls), Ent.ow 0 (Li [1 + d1, 1 + d2]), x4, x5, x6], ⟨_, _, _, _, _, _, HL.nil n, rfl⟩, fun i t ρ hi hI => ?_, fun ρ hI => ?_⟩
  · obtain ⟨ls, a, c, x4, x5, x6, hl, rfl⟩ := hI
    obtain ⟨il, rfl⟩ := rgT_get.mp hi
    rw [Int.zero_add]
    walk_at "RD"
    (repeat (first | refine ⟨rfl, ?_⟩ | refine ⟨fit0, ?_⟩))
    refine callTicket (by omega) (by omega) fun t a4 c4 t1 t2 t3 => ?_
    walk_at "RD"
    (repeat (first | refine ⟨rfl, ?_⟩ | refine ⟨fit0, ?_⟩))
    refine callDraw_io (m := 6) (by omega) (by omega) fun u a5 c5 _ _ => ?_
    walk_at "RD"
    obtain ⟨⟨q1, e1⟩, q2, e2⟩ : (∃ q : Nat, t.1 = q) ∧ ∃ q : Nat, t.2.1 = q := ⟨Int.eq_ofNat_of_zero_le t2.1, Int.eq_ofNat_of_zero_le t3.1⟩
    have n1 : q1 < n := by have := t2.2; omega
    have n2' : q2 < n := by have := t3.2; omega
    have k1 : TkOk n q1 t := ⟨t1, t2, t3, .inl e1⟩
    have k2 : TkOk n q2 t := ⟨t1, t2, t3, .inr e2⟩
    have st : ∀ (ls : List (List Tk)) (q : Nat) (l : List Tk) (t : Tk), (ls.map tsT).set q (T.lst (l.map tkT ++ [tkT t])) = (ls.set q (l ++ [t])).map tsT := fun ls q l t => by
      rw [List.map_set]
      unfold tsT
      rw [List.map_append]; rfl
    have ix : ∀ (ls : List (List Tk)) (q : Nat), ls.length = n → q < n → ixN (ls.map tsT).length (q : Int) = some q := fun ls q h1 h2 => ixN_nat (by rw [List.length_map, h1]; exact h2)
    have gt : ∀ (ls : List (List Tk)) (q : Nat) (l : List Tk), ls[q]? = some l → (ls.map tsT)[q]? = some (T.lst (l.map tkT)) := fun ls q l h => by rw [List.getElem?_map, h]; rfl
    have mw : ∀ (t : Tk), t.1 = q1 → t.2.1 = q2 → gIx (tkT t) (.int 0) = (fun R => R (.int q1)) ∧ gIx (tkT t) (.int 1) = (fun R => R (.int q2)) := fun t h1 h2 => ⟨by funext R; rw [g40, h1], by funext R; rw [g41, h2]⟩
    obtain ⟨m0, m1⟩ := mw t e1 e2
    refine ⟨fun ρ => ∃ ls, HL n (4 * i + 1) ls ∧ ρ = [Ent.io 1 (Li [a5, b, c5]), Ent.ow 0 (.int n), Ent.ow 2 (hsT ls), Ent.ow 0 (Li [1 + d1, 1 + d2]), Ent.ow 0 (.int i), Ent.ow 0 (.int u), Ent.ow 0 (tkT t)], ?_, fun ρ hI => ?_⟩
    · unfold hsT
      (first | walk_at "RD" | skip); repeat (simp -dsimp only [m0, m1]; first | walk_at "RD" | skip)
      refine ifS (fun _ => ?_) fun _ => ⟨ls, hl.up (by omega), rfl⟩
      obtain ⟨l, el⟩ := hl.get n1
      simp only [ix ls q1 hl.len n1, gt ls q1 l el, st]
      exact ⟨by rw [List.length_map]; have := (hl.each q1 l el).1; omega, rfl, _, hl.add el k1, rfl⟩
    clear hl ls
    obtain ⟨ls, hl, rfl⟩ := hI
    refine ⟨fun ρ => ∃ ls, HL n (4 * i + 2) ls ∧ ρ = [Ent.io 1 (Li [a5, b, c5]), Ent.ow 0 (.int n), Ent.ow 2 (hsT ls), Ent.ow 0 (Li [1 + d1, 1 + d2]), Ent.ow 0 (.int i), Ent.ow 0 (.int u), Ent.ow 0 (tkT t)], ?_, fun ρ hI => ?_⟩
    · unfold hsT
      (first | walk_at "RD" | skip); repeat (simp -dsimp only [m0, m1]; first | walk_at "RD" | skip)
      refine ifS (fun _ => ?_) fun _ => ⟨ls, hl.up (by omega), rfl⟩
      obtain ⟨l, el⟩ := hl.get n2'
      simp only [ix ls q2 hl.len n2', gt ls q2 l el, st]
      exact ⟨by rw [List.length_map]; have := (hl.each q2 l el).1; omega, rfl, _, hl.add el k2, rfl⟩
    clear hl ls
    obtain ⟨ls, hl, rfl⟩ := hI
    refine ⟨fun ρ => ∃ ls, HL n (4 * i + 3) ls ∧ ρ = [Ent.io 1 (Li [a5, b, c5]), Ent.ow 0 (.int n), Ent.ow 2 (hsT ls), Ent.ow 0 (Li [1 + d1, 1 + d2]), Ent.ow 0 (.int i), Ent.ow 0 (.int u), Ent.ow 0 (tkT t)], ?_, fun ρ hI => ?_⟩
    · unfold hsT
      (first | walk_at "RD" | skip); repeat (simp -dsimp only [m0, m1]; first | walk_at "RD" | skip)
      refine ifS (fun _ => ?_) fun _ => ⟨ls, hl.up (by omega), rfl⟩
      obtain ⟨l, el⟩ := hl.get n1
      simp only [ix ls q1 hl.len n1, gt ls q1 l el, st]
      exact ⟨by rw [List.length_map]; have := (hl.each q1 l el).1; omega, rfl, _, hl.add el k1, rfl⟩
    clear hl ls
    obtain ⟨ls, hl, rfl⟩ := hI
    unfold hsT
    (first | walk_at "RD" | skip); repeat (simp -dsimp only [m0, m1, g42, g43]; first | walk_at "RD" | skip)
    refine ifS (fun _ => ?_) fun _ => ?_
    · obtain ⟨l, el⟩ := hl.get n2'
      simp only [ix ls q2 hl.len n2', gt ls q2 l el]
      have e : (ls.map tsT).set q2 (T.lst (l.map tkT ++ [T.tup [.int q1, .int q2, .int t.2.2.1, .int ((t.2.2.2 + 1) % 401)]])) = (ls.set q2 (l ++ [((q1 : Int), (q2 : Int), t.2.2.1, (t.2.2.2 + 1) % 401)])).map tsT := st ls q2 l ((q1 : Int), (q2 : Int), t.2.2.1, (t.2.2.2 + 1) % 401)
      have hk : HL n (4 * i + 3 + 1) (ls.set q2 (l ++ [((q1 : Int), (q2 : Int), t.2.2.1, (t.2.2.2 + 1) % 401)])) := hl.add el ⟨by rw [← e1, ← e2]; exact t1, by rw [← e1]; exact t2, by rw [← e2]; exact t3, .inr rfl⟩
      rw [e]
      exact ⟨by rw [List.length_map]; have := (hl.each q2 l el).1; omega, by decide, rfl, _, _, _, _, _, _, hk, rfl⟩
    · exact ⟨ls, _, _, _, _, _, hl.up (by omega), rfl⟩
  obtain ⟨ls, a, c, x4, x5, x6, hl, rfl⟩ := hI
  rw [rgT_len] at hl
  have hl := hl.up (show 4 * d3 ≤ 100 by omega)
  walk_at "RD"
  (repeat (first | refine ⟨rfl, ?_⟩ | refine ⟨fit0, ?_⟩))
  refine callDraw_io (m := n) (by omega) (by omega) fun u a5 c5 u1 u2 => ?_
  walk_at "RD"
  obtain ⟨u, rfl⟩ := Int.eq_ofNat_of_zero_le u1
  have un : u < n := by omega
  obtain ⟨l, el⟩ := hl.get un
  unfold hsT
  refine gIx_lst (by rw [List.getElem?_map, el]; rfl) ?_
  have ix : ixN (ls.map tsT).length (u : Int) = some u := ixN_nat (by rw [List.length_map, hl.len]; exact un)
  (first | walk_at "RD" | skip); repeat (simp -dsimp only [ix]; first | walk_at "RD" | skip)
  have e : (ls.map tsT).set u (T.lst (l.map tkT).reverse) = (ls.set u l.reverse).map tsT := by
    rw [List.map_set]
    unfold tsT
    rw [List.map_reverse]
  rw [e]
  refine ⟨flats_iff'.mpr fun t ht => ?_, .inl (Nat.le_refl _), fit0, h _ a5 c5 (hl.set (by rw [List.length_reverse]; exact (hl.each u l el).1) fun t ht => (hl.each u l el).2 t (List.mem_reverse.mp ht))⟩
  obtain ⟨z, _, rfl⟩ := List.mem_map.mp (List.mem_reverse.mp ht)
  rfl
end
end K95
set_option Elab.async false
set_option linter.all false
set_option maxRecDepth 100000
namespace K95
open PySem PySem.Spec PyProof.Rows L2 L2H TL
local macro_rules | `(tactic| walk_at "RD") => `(tactic| simp -dsimp only [↓uSeq, ↓uNext, ↓uFor, ↓uSt, ↓uStV, ↓uAu, ↓uAp, ↓uApMv, ↓uAuN, ↓uAlias, ↓uDem, ↓uBrk, ↓uCnt, ↓uNev, ↓uRet, ↓uRetN, ↓uExp, ↓uExpP, ↓uRaise1, ↓wCallX, ↓uExpX, ↓uRetX, ↓uSetX, ↓uTryE, ↓uForD, ↓uAsgT, ↓wSlT, ↓gCatT, ↓uForV, ↓uForI, ↓uDp, ↓uSt2, ↓uAu2, ↓uAp2, ↓uDemK, ↓wDG1, ↓wDG2, ↓wDisp, ↓vKD, ↓vKG, ↓vKL, ↓vDN, ↓vLend, ↓gDG, ↓gDI, ↓gGet, ↓gLenA, ↓gStrI, ↓gTupl, ↓gDict, ↓iZp3, ↓TL.iRngV, kidT, ↓tKey_int, ↓tKey_str, ↓tKey_kT, ↓tKeyL, ↓tKeys, ↓ownD, kidsOf, ndSet, dput, dlook, noX, rdE, demK, ↓gLtT, ↓iRngD, ↓vSortP, ↓vCat, ↓vCatV, ↓gCat, ↓uSet, ↓uSetR, ↓uIf, ↓wVar, ↓wVarV, ↓wC, ↓w1, ↓w2, ↓wT, asB, ↓wChain, ↓wNil, ↓wCons, ↓wAnd, ↓wOr, ↓wNot, ↓wAndV, ↓wOrV, ↓wNotV, ↓wIf, ↓wCallP, ↓wCallV, ↓wCa, ↓wTup, ↓wLst, ↓oNon, ↓oSom, ↓wSlice, ↓wRev, ↓vP, ↓vSh, ↓vFit, ↓vaNil, ↓vaCons, ↓vLst, ↓vTup, ↓vTup0, ↓vList, ↓vRep, ↓vSlice, ↓cSl, ↓vCallN, ↓v1, ↓vCa, ↓vIx, ↓tP, ↓vAnd, ↓vOr, ↓vNot, ↓vIf, ↓vT, ↓v2, ↓vLc, ↓gI2, ↓gI2c, ↓gLen, ↓gII, ↓gI, ↓gInt1, ↓gRep, ↓gKids, ↓gIn, ↓iLst, ↓TL.iTup, ↓TL.iRng1, ↓TL.iRng2, ↓iEn, ↓iZp, ↓hName, ↓hCons, ↓hNil, ↓hTup, ↓wSl, ↓wIsi, ↓wYes, rho0, iniE, entOf, allSh, List.replicate, List.length_cons, List.length_nil, Nat.reduceAdd, Nat.reduceSub, Nat.reduceLT, Nat.reduceLeDiff, List.cons_append, List.nil_append, List.getElem?_cons_zero, List.getElem?_cons_succ, Option.bind_some, Ent.tr, Ent.own, Ent.put, setE, killA, noAl_ow, noAl_io1, noAl_no, noAl_ro, noAl_al', killJ_cons, killJ_nil0, noRo_ow, noRo_io, noRo_no, noRo_al, mem1, notIn, noRA_ow, noRA_io, noRA_no, noRA_al, Plc, demE, List.foldl_cons, List.foldl_nil, List.map_cons, List.map_nil, List.set_cons_zero, List.set_cons_succ, endsOf, ↓outsOf, Option.map_some, plSet, TL.putAt, T.put, true_and, and_true, lst_set, lst_snoc, lm_set, lm_snoc, shOnly, shE_ow0, shE_ow1, shE_io, shE_no, Option.isSome_some, reduceIte, if_true, if_false, Bool.false_eq_true, Nat.reduceEqDiff, ↓vRev, ↓vPure, frz_cons, frz_nil, frzE, ↓gInD, ↓vSortG, ↓vSortDT, ↓vAndB, ↓vOrB, dE, ↓tsT, pdsT, ↓tKeys_tk, lkT_E, putT_E])
section
variable {P : Program} {w : World} {K : PySem.W.Frag} {mg : Str → Option Value} {base : Heap}
theorem any_tk (t : Tk) : ∀ l : List Tk, ((l.map tkT).any fun z => z.eqv (tkT t)) = decide (t ∈ l)
  | [] => by simp
  | u :: l => by
    rw [List.map_cons, List.any_cons, any_tk t l, eqv_tk]
    by_cases h : u = t
    · subst h; simp
    · have : ¬ t = u := fun z => h z.symm
      simp [h, this]
theorem any_pd (t : Pd) : ∀ l : List Pd, ((l.map pdT).any fun z => z.eqv (pdT t)) = decide (t ∈ l)
  | [] => by simp
  | u :: l => by
    rw [List.map_cons, List.any_cons, any_pd t l, eqv_pd]
    by_cases h : u = t
    · subst h; simp
    · have : ¬ t = u := fun z => h z.symm
      simp [h, this]
theorem ok_tk (t : Tk) : (tkT t).okd 1 = true := rfl
theorem ok_pd (p : Pd) : (pdT p).okd 2 = true := rfl
theorem oks_tk : ∀ l : List Tk, T.okds (l.map tkT) 1 = true
  | [] => rfl
  | t :: l => by rw [List.map_cons, T.okds, ok_tk, oks_tk l]; rfl
theorem oks_pd : ∀ l : List Pd, T.okds (l.map pdT) 2 = true
  | [] => rfl
  | t :: l => by rw [List.map_cons, T.okds, ok_pd, oks_pd l]; rfl
theorem eok_tk (t : Tk) : (tkT t).eqok = true := okd_eqok (ok_tk t) (by omega)
theorem eok_pd (t : Pd) : (pdT t).eqok = true := okd_eqok (ok_pd t) (by omega)
theorem eok_ts (l : List Tk) : (T.lst (l.map tkT)).eqok = true := okd_eqok (n := 2) (oks_tk l) (by omega)
theorem eok_ps (l : List Pd) : (T.lst (l.map pdT)).eqok = true := okd_eqok (n := 3) (oks_pd l) (by omega)
def OccT (ls : List (List Tk)) (i j : Nat) (t : Tk) : Prop := ∃ h, Occ ls i j h t
structure KnI (ls : List (List Tk)) (i j : Nat) (B : List Tk) (F : List Pd) : Prop where
  nb : B.Nodup
  nf : F.Nodup
  lb : B.length ≤ 100 * i + j
  lf : F.length ≤ 100 * i + j
  mb : ∀ t, t ∈ B ↔ OccT ls i j t ∧ Both ls t
  mf : ∀ p, p ∈ F ↔ OccT ls i j p.1 ∧ Half ls p
theorem occT_step {ls : List (List Tk)} {i j : Nat} {l : List Tk} {t : Tk} (hl : ls[i]? = some l) (ht : l[j]? = some t) (u : Tk) : OccT ls i (j + 1) u ↔ OccT ls i j u ∨ u = t := by
  unfold OccT
  constructor
  · rintro ⟨h, z⟩
    rcases (occ_step hl ht h u).mp z with z | ⟨_, z⟩
    · exact .inl ⟨h, z⟩
    · exact .inr z
  · rintro (⟨h, z⟩ | e)
    · exact ⟨h, (occ_step hl ht h u).mpr (.inl z)⟩
    · exact ⟨i, (occ_step hl ht i u).mpr (.inr ⟨rfl, e⟩)⟩
theorem KnI.start (ls : List (List Tk)) : KnI ls 0 0 [] [] := by
  have no : ∀ t, ¬ OccT ls 0 0 t := fun t ⟨h, z⟩ => by
    rcases z with ⟨i', h1, _⟩ | ⟨_, l, _, h2⟩
    · omega
    · simp at h2
  exact ⟨List.nodup_nil, List.nodup_nil, Nat.zero_le _, Nat.zero_le _, fun t => ⟨fun z => absurd z (by simp), fun z => absurd z.1 (no t)⟩, fun t => ⟨fun z => absurd z (by simp), fun z => absurd z.1 (no t.1)⟩⟩
theorem KnI.row {ls : List (List Tk)} {i : Nat} {l : List Tk} {B : List Tk} {F : List Pd} (h : KnI ls i l.length B F) (hl : ls[i]? = some l) (hb : l.length ≤ 100) : KnI ls (i + 1) 0 B F := by
  have e : ∀ t, OccT ls (i + 1) 0 t ↔ OccT ls i l.length t := fun t => by
    unfold OccT
    constructor
    · rintro ⟨g, ⟨i', h1, h2, l', hl', hm⟩ | ⟨e, l', _, hm⟩⟩
      · by_cases q : i' = i
        · subst q
          rw [hl] at hl'; cases hl'
          exact ⟨g, .inr ⟨h2, l, hl, by rw [List.take_length]; exact hm⟩⟩
        · exact ⟨g, .inl ⟨i', by omega, h2, l', hl', hm⟩⟩
      · simp at hm
    · rintro ⟨g, ⟨i', h1, h2⟩ | ⟨e, l', hl', hm⟩⟩
      · exact ⟨g, .inl ⟨i', by omega, h2⟩⟩
      · rw [hl] at hl'; cases hl'
        rw [List.take_length] at hm
        exact ⟨g, .inl ⟨i, by omega, e, l, hl, hm⟩⟩
  exact ⟨h.nb, h.nf, by have := h.lb; omega, by have := h.lf; omega, fun t => by rw [e]; exact h.mb t, fun p => by rw [e]; exact h.mf p⟩
theorem KnI.all {ls : List (List Tk)} {B : List Tk} {F : List Pd} (h : KnI ls ls.length 0 B F) : (∀ t, t ∈ B ↔ Both ls t) ∧ ∀ p, p ∈ F ↔ Half ls p := by
  have occ : ∀ t g, Hd ls g t → OccT ls ls.length 0 t := fun t g ⟨i, l, e, hl, hm⟩ => ⟨g, .inl ⟨i, (List.getElem?_eq_some_iff.mp hl).1, e, l, hl, hm⟩⟩
  refine ⟨fun t => (h.mb t).trans ⟨fun z => z.2, fun z => ⟨occ t _ z.1, z⟩⟩, fun p => (h.mf p).trans ⟨fun z => z.2, fun z => ⟨?_, z⟩⟩⟩
  rcases z with ⟨_, _, z⟩ | ⟨_, _, z⟩
  · exact occ _ _ z
  · exact occ _ _ z
/-- the other house of a ticket -/
structure Oth (ls : List (List Tk)) (i : Nat) (t : Tk) (o : Nat) : Prop where
  oe : t.1 + t.2.1 - (i : Int) = o
  both : Both ls t ↔ Hd ls o t
  half : ∀ g : Int, Half ls (t, g) ↔ g = o ∧ ¬ Hd ls o t
theorem oth_of {n : Nat} {ls : List (List Tk)} (hh : HL n 100 ls) {i : Nat} {l : List Tk} {t : Tk} (hl : ls[i]? = some l) (ht : t ∈ l) : ∃ o : Nat, o < n ∧ Oth ls i t o := by
  obtain ⟨t1, t2, t3, t4⟩ := (hh.each i l hl).2 t ht
  have hi : Hd ls i t := ⟨i, l, rfl, hl, ht⟩
  rcases t4 with e | e
  · obtain ⟨o, ho⟩ := Int.eq_ofNat_of_zero_le t3.1
    refine ⟨o, by have := t3.2; omega, by omega, ?_, fun g => ?_⟩
    · unfold Both; rw [e, ho]; exact ⟨fun z => z.2, fun z => ⟨hi, z⟩⟩
    · unfold Half
      show (g = t.1 ∧ ¬ Hd ls t.1 t ∧ Hd ls t.2.1 t) ∨ (g = t.2.1 ∧ ¬ Hd ls t.2.1 t ∧ Hd ls t.1 t) ↔ _
      rw [e, ho]
      exact ⟨fun z => z.elim (fun z => absurd hi z.2.1) fun z => ⟨z.1, z.2.1⟩, fun z => .inr ⟨z.1, z.2, hi⟩⟩
  · obtain ⟨o, ho⟩ := Int.eq_ofNat_of_zero_le t2.1
    refine ⟨o, by have := t2.2; omega, by omega, ?_, fun g => ?_⟩
    · unfold Both; rw [e, ho]; exact ⟨fun z => z.1, fun z => ⟨z, hi⟩⟩
    · unfold Half
      show (g = t.1 ∧ ¬ Hd ls t.1 t ∧ Hd ls t.2.1 t) ∨ (g = t.2.1 ∧ ¬ Hd ls t.2.1 t ∧ Hd ls t.1 t) ↔ _
      rw [e, ho]
      exact ⟨fun z => z.elim (fun z => ⟨z.1, z.2.1⟩) fun z => absurd hi z.2.1, fun z => .inl ⟨z.1, z.2, hi⟩⟩
theorem KnI.step {ls : List (List Tk)} {i j o : Nat} {l : List Tk} {t : Tk} {B : List Tk} {F : List Pd} (h : KnI ls i j B F) (hl : ls[i]? = some l) (ht : l[j]? = some t) (ot : Oth ls i t o) {B' : List Tk} {F' : List Pd}
    (hB : (B' = B ∧ ¬ (Hd ls o t ∧ t ∉ B)) ∨ (B' = B ++ [t] ∧ Hd ls o t ∧ t ∉ B)) (hF : (F' = F ∧ ¬ (¬ Hd ls o t ∧ (t, (o : Int)) ∉ F)) ∨ (F' = F ++ [(t, (o : Int))] ∧ ¬ Hd ls o t ∧ (t, (o : Int)) ∉ F)) : KnI ls i (j + 1) B' F' := by
  refine ⟨?_, ?_, ?_, ?_, fun u => ?_, fun p => ?_⟩
  · rcases hB with ⟨rfl, _⟩ | ⟨rfl, _, z⟩
    · exact h.nb
    · exact List.nodup_append.mpr ⟨h.nb, (by simp), fun a ha b hb => by rw [List.mem_singleton.mp hb]; intro e; subst e; exact z ha⟩
  · rcases hF with ⟨rfl, _⟩ | ⟨rfl, _, z⟩
    · exact h.nf
    · exact List.nodup_append.mpr ⟨h.nf, (by simp), fun a ha b hb => by rw [List.mem_singleton.mp hb]; intro e; subst e; exact z ha⟩
  · have := h.lb
    rcases hB with ⟨rfl, _⟩ | ⟨rfl, _⟩
    · omega
    · rw [List.length_append, List.length_singleton]; omega
  · have := h.lf
    rcases hF with ⟨rfl, _⟩ | ⟨rfl, _⟩
    · omega
    · rw [List.length_append, List.length_singleton]; omega
  · rw [occT_step hl ht]
    have m := h.mb u
    rcases hB with ⟨rfl, z⟩ | ⟨rfl, z1, z2⟩
    · constructor
      · exact fun q => ⟨.inl (m.mp q).1, (m.mp q).2⟩
      · rintro ⟨q | q, q2⟩
        · exact m.mpr ⟨q, q2⟩
        · subst q
          by_cases w : u ∈ B'
          · exact w
          · exact absurd ⟨ot.both.mp q2, w⟩ z
    · rw [List.mem_append, List.mem_singleton, m]
      constructor
      · rintro (q | q)
        · exact ⟨.inl q.1, q.2⟩
        · subst q; exact ⟨.inr rfl, ot.both.mpr z1⟩
      · rintro ⟨q | q, q2⟩
        · exact .inl ⟨q, q2⟩
        · exact .inr q
  · rw [occT_step hl ht]
    have m := h.mf p
    rcases hF with ⟨rfl, z⟩ | ⟨rfl, z1, z2⟩
    · constructor
      · exact fun q => ⟨.inl (m.mp q).1, (m.mp q).2⟩
      · rintro ⟨q | q, q2⟩
        · exact m.mpr ⟨q, q2⟩
        · obtain ⟨u, g⟩ := p
          have q : u = t := q
          subst q
          obtain ⟨e, q3⟩ := (ot.half g).mp q2
          subst e
          by_cases w : (u, (o : Int)) ∈ F'
          · exact w
          · exact absurd ⟨q3, w⟩ z
    · rw [List.mem_append, List.mem_singleton, m]
      constructor
      · rintro (q | q)
        · exact ⟨.inl q.1, q.2⟩
        · subst q; exact ⟨.inr rfl, (ot.half _).mpr ⟨rfl, z1⟩⟩
      · rintro ⟨q | q, q2⟩
        · exact .inl ⟨q, q2⟩
        · obtain ⟨u, g⟩ := p
          have q : u = t := q
          subst q
          obtain ⟨e, _⟩ := (ot.half g).mp q2
          subst e
          exact .inr rfl
theorem sorted_M {ls : List (List Tk)} {B : List Tk} (hn : B.Nodup) (hm : ∀ t, t ∈ B ↔ Both ls t) {qs : List T} (hp : qs.Perm (B.map tkT)) (hs : qs.Pairwise leD) : ∃ M, qs = M.map tkT ∧ IsM ls M ∧ M.length = B.length := by
  obtain ⟨M, pm, rfl⟩ := perm_map unTk_tk hp
  exact ⟨M, rfl, ⟨pm.nodup_iff.mpr hn, (List.pairwise_map.mp hs).imp fun {a b} z => (tle_tk a b).mp z, fun t => pm.mem_iff.trans (hm t)⟩, pm.length_eq⟩
theorem sorted_H {ls : List (List Tk)} {B : List Pd} (hn : B.Nodup) (hm : ∀ t, t ∈ B ↔ Half ls t) {qs : List T} (hp : qs.Perm (B.map pdT)) (hs : qs.Pairwise leD) : ∃ M, qs = M.map pdT ∧ IsH ls M ∧ M.length = B.length := by
  obtain ⟨M, pm, rfl⟩ := perm_map unPd_pd hp
  exact ⟨M, rfl, ⟨pm.nodup_iff.mpr hn, (List.pairwise_map.mp hs).imp fun {a b} z => (tle_pd a b).mp z, fun t => pm.mem_iff.trans (hm t)⟩, pm.length_eq⟩
theorem hd_mem {ls : List (List Tk)} {o : Nat} {l : List Tk} {t : Tk} (hl : ls[o]? = some l) : t ∈ l ↔ Hd ls o t := by
  constructor
  · exact fun h => ⟨o, l, rfl, hl, h⟩
  · rintro ⟨i, l', e, hl', hm⟩
    have : o = i := by omega
    subst this
    rw [hl] at hl'; cases hl'
    exact hm
def W__law_known : FnT := fun ts R => ∃ (n : Nat) (ls : List (List Tk)), ts = [hsT ls] ∧ n ≤ 6 ∧ HL n 100 ls ∧ ∀ M Hf, IsM ls M → IsH ls Hf → M.length ≤ 600 → Hf.length ≤ 600 → R 0 (.tup [tsT M, pdsT Hf]) []
set_option maxHeartbeats 4000000 in
theorem ok__law_known {k : Nat} (G : Gs K mg) : FnOk P w K mg base CX0 (k + 1) G.g__law_known.f G.g__law_known.d ["lists"] (spT K (allSh 1) W__law_known) := by
  refine fnT (k := k + 0) G.g__law_known.F sc__law_known rfl (fun X cdv A outer s H E hX hr => ?_)
  subst hX
  refine ⟨_, (ts_cons (ts_set 1 sc__law_known.nd rfl (.inl rfl) (tv_lst 0 tva_nil (by simp) (by decide)))
      (ts_cons (ts_set 2 sc__law_known.nd rfl (.inl rfl) (tv_lst 0 tva_nil (by simp) (by decide)))
      (ts_cons (ts_for PassesOwn.never rfl (ti_rng1 (by rfl) G.z_range (tp_callB call_len_seq caT_len (by rfl) G.z_len PySem.boot_len (tpa_cons (tp_var 0) tpa_nil))) (tg_name 3 sc__law_known.nd rfl (.inl rfl)) (ts_one (ts_for PassesOwn.never rfl (ti_lst (tv_sh (tp_ix (tp_var 0) (tp_var 3) (fun _ _ => rfl)))) (tg_name 4 sc__law_known.nd rfl (.inl rfl)) (ts_cons (ts_set 5 sc__law_known.nd rfl (.inl rfl) (tv_p (tp_op op_sub opT_int (tp_op op_add opT_int (tp_ix (tp_var 4) tp_int (fun _ _ => rfl)) (tp_ix (tp_var 4) tp_int (fun _ _ => rfl))) (tp_var 3))))
      (ts_cons (ts_if (tvt_p (TPW.pt (tpw_and (tpt_cmp (op_notInD (inU hr)) opT_notInD (tp_var 4) (tp_ix (tp_var 0) (tp_var 5) (fun _ _ => rfl)) (by rfl)) (tpw_and1 (tpt_cmp (op_notInD (inU hr)) opT_notInD (tp_tup (tpa_cons (tp_var 4) (tpa_cons (tp_var 5) tpa_nil))) (tp_var 2) (by rfl)))))) (ts_one (ts_app 2 (tv_sh (tp_tup (tpa_cons (tp_var 4) (tpa_cons (tp_var 5) tpa_nil)))))) ts_nil)
      (ts_one (ts_if (tvt_p (TPW.pt (tpw_and (tpt_cmp (op_inD (inU hr)) opT_inD (tp_var 4) (tp_ix (tp_var 0) (tp_var 5) (fun _ _ => rfl)) (by rfl)) (tpw_and1 (tpt_cmp (op_notInD (inU hr)) opT_notInD (tp_var 4) (tp_var 1) (by rfl)))))) (ts_one (ts_app 1 (tv_var 4))) ts_nil)))))))
      (ts_one (ts_ret (tv_tup0 (tva_cons 0 (tv_sortG (eqU hr) (by rfl) G.z_sorted (tva_cons 0 (tv_var 1) tva_nil)) (tva_cons 0 (tv_sortG (eqU hr) (by rfl) G.z_sorted (tva_cons 0 (tv_var 2) tva_nil)) tva_nil)) (by simp) (by decide))))))), fun ts R hW hlen => ?_⟩

  obtain ⟨n, ls, rfl, n6, hh, h⟩ := hW
  unfold hsT
  walk_at "RD"
  have ll : (ls.map tsT).length = n := by rw [List.length_map, hh.len]
  rw [ll, Int.toNat_natCast]
  refine ⟨by omega, by omega, fun i ρ => ∃ B F x3 x4 x5, KnI ls i 0 B F ∧ ρ = [Ent.ow 0 (hsT ls), Ent.ow 1 (tsT B), Ent.ow 1 (pdsT F), x3, x4, x5], ⟨_, _, _, _, _, KnI.start ls, rfl⟩, fun i t ρ hi hI => ?_, fun ρ hI => ?_⟩
  · obtain ⟨B, F, x3, x4, x5, kn, rfl⟩ := hI
    obtain ⟨il, rfl⟩ := rgT_get.mp hi
    rw [Int.zero_add]
    obtain ⟨l, el⟩ := hh.get il
    walk_at "RD"
    unfold hsT
    refine gIx_lst (by rw [List.getElem?_map, el]; rfl) ?_
    show forOk _ _ _ _ _
    refine ⟨fun j ρ => ∃ B F x4 x5, KnI ls i j B F ∧ ρ = [Ent.ow 0 (hsT ls), Ent.ow 1 (tsT B), Ent.ow 1 (pdsT F), Ent.ow 0 (.int i), x4, x5], ⟨_, _, _, _, kn, rfl⟩, fun j t ρ hj hI => ?_, fun ρ hI => ?_⟩
    · obtain ⟨B, F, x4, x5, kn, rfl⟩ := hI
      obtain ⟨t, ht, rfl⟩ := tsT_get hj
      obtain ⟨o, ol, ot⟩ := oth_of hh el (List.mem_of_getElem? ht)
      obtain ⟨lo, eo⟩ := hh.get ol
      have jl : j < l.length := (List.getElem?_eq_some_iff.mp ht).1
      have l100 := (hh.each i l el).1
      have lb := kn.lb
      have lf := kn.lf
      have oe := ot.oe
      have go : (ls.map tsT)[o]? = some (T.lst (lo.map tkT)) := by rw [List.getElem?_map, eo]; rfl
      (first | walk_at "RD" | skip); repeat (simp -dsimp only [g40, g41]; first | walk_at "RD" | skip)
      rw [oe]
      have hm := hd_mem (t := t) eo
      refine ⟨rfl, gIx_lst go ⟨eok_tk t, eok_ts lo, ?_⟩⟩
      rw [any_tk]
      by_cases c1 : t ∈ lo
      · refine ifF (by simp [c1]) (gIx_lst go ⟨eok_tk t, eok_ts lo, ?_⟩)
        rw [any_tk]
        refine ifT (by simp [c1]) ⟨eok_tk t, eok_ts B, ?_⟩
        rw [any_tk]
        refine ifS (fun q => ?_) fun q => ?_
        · have q : t ∉ B := by simpa using q
          have k := kn.step el ht ot (.inr ⟨rfl, hm.mp c1, q⟩) (.inl ⟨rfl, fun z => z.1 (hm.mp c1)⟩)
          have e : B.map tkT ++ [tkT t] = (B ++ [t]).map tkT := by rw [List.map_append]; rfl
          rw [e]
          exact ⟨fit0, by rw [List.length_map]; omega, _, _, _, _, k, rfl⟩
        · have q : t ∈ B := by simpa using q
          have k := kn.step el ht ot (.inl ⟨rfl, fun z => z.2 q⟩) (.inl ⟨rfl, fun z => z.1 (hm.mp c1)⟩)
          exact ⟨_, _, _, _, k, rfl⟩
      · have nh : ¬ Hd ls o t := fun z => c1 (hm.mpr z)
        refine ifT (by simp [c1]) ⟨eok_pd (t, o), eok_ps F, ?_⟩
        have ea : ((F.map pdT).any fun z => z.eqv (T.tup [tkT t, .int (o : Nat)])) = decide ((t, (o : Int)) ∈ F) := any_pd (t, (o : Int)) F
        rw [ea]
        refine ifS (fun q => ?_) fun q => ?_
        · have q : (t, (o : Int)) ∉ F := by simpa using q
          have k := kn.step el ht ot (.inl ⟨rfl, fun z => nh z.1⟩) (.inr ⟨rfl, nh, q⟩)
          have e : F.map pdT ++ [T.tup [tkT t, .int (o : Nat)]] = (F ++ [(t, (o : Int))]).map pdT := by rw [List.map_append]; rfl
          rw [e]
          refine ⟨fit0, by rw [List.length_map]; omega, gIx_lst go ⟨eok_tk t, eok_ts lo, ?_⟩⟩
          rw [any_tk]
          refine ifF (by simp [c1]) ?_
          exact ⟨_, _, _, _, k, rfl⟩
        · have q : (t, (o : Int)) ∈ F := by simpa using q
          have k := kn.step el ht ot (.inl ⟨rfl, fun z => nh z.1⟩) (.inl ⟨rfl, fun z => z.2 q⟩)
          refine gIx_lst go ⟨eok_tk t, eok_ts lo, ?_⟩
          rw [any_tk]
          refine ifF (by simp [c1]) ?_
          exact ⟨_, _, _, _, k, rfl⟩
    · obtain ⟨B, F, x4, x5, kn, rfl⟩ := hI
      rw [List.length_map] at kn
      exact ⟨B, F, _, _, _, kn.row el ((hh.each i l el).1), rfl⟩
  · obtain ⟨B, F, x3, x4, x5, kn, rfl⟩ := hI
    rw [rgT_len, ← hh.len] at kn
    obtain ⟨a1, a2⟩ := kn.all
    walk_at "RD"
    refine ⟨fit0, srt_tk B, fun qs hp hs => ?_⟩
    obtain ⟨M, rfl, hM, hMl⟩ := sorted_M kn.nb a1 hp hs
    refine ⟨fit0, fit0, srt_pd F, fun qs hp hs => ?_⟩
    obtain ⟨Hf, rfl, hH, hHl⟩ := sorted_H kn.nf a2 hp hs
    exact ⟨fit0, h M Hf hM hH (by have := kn.lb; have := hh.len; omega) (by have := kn.lf; have := hh.len; omega)⟩
end
end K95
set_option Elab.async false
set_option linter.all false
set_option maxRecDepth 100000
namespace K95
open PySem PySem.Spec PyProof.Rows L2 L2H TL
local macro_rules | `(tactic| walk_at "RD") => `(tactic| simp -dsimp only [↓uSeq, ↓uNext, ↓uFor, ↓uSt, ↓uStV, ↓uAu, ↓uAp, ↓uApMv, ↓uAuN, ↓uAlias, ↓uDem, ↓uBrk, ↓uCnt, ↓uNev, ↓uRet, ↓uRetN, ↓uExp, ↓uExpP, ↓uRaise1, ↓wCallX, ↓uExpX, ↓uRetX, ↓uSetX, ↓uTryE, ↓uForD, ↓uAsgT, ↓wSlT, ↓gCatT, ↓uForV, ↓uForI, ↓uDp, ↓uSt2, ↓uAu2, ↓uAp2, ↓uDemK, ↓wDG1, ↓wDG2, ↓wDisp, ↓vKD, ↓vKG, ↓vKL, ↓vDN, ↓vLend, ↓gDG, ↓gDI, ↓gGet, ↓gLenA, ↓gStrI, ↓gTupl, ↓gDict, ↓iZp3, ↓TL.iRngV, kidT, ↓tKey_int, ↓tKey_str, ↓tKey_kT, ↓tKeyL, ↓tKeys, ↓ownD, kidsOf, ndSet, dput, dlook, noX, rdE, demK, ↓gLtT, ↓iRngD, ↓vSortP, ↓vCat, ↓vCatV, ↓gCat, ↓uSet, ↓uSetR, ↓uIf, ↓wVar, ↓wVarV, ↓wC, ↓w1, ↓w2, ↓wT, asB, ↓wChain, ↓wNil, ↓wCons, ↓wAnd, ↓wOr, ↓wNot, ↓wAndV, ↓wOrV, ↓wNotV, ↓wIf, ↓wCallP, ↓wCallV, ↓wCa, ↓wTup, ↓wLst, ↓oNon, ↓oSom, ↓wSlice, ↓wRev, ↓vP, ↓vSh, ↓vFit, ↓vaNil, ↓vaCons, ↓vLst, ↓vTup, ↓vTup0, ↓vList, ↓vRep, ↓vSlice, ↓cSl, ↓vCallN, ↓v1, ↓vCa, ↓vIx, ↓tP, ↓vAnd, ↓vOr, ↓vNot, ↓vIf, ↓vT, ↓v2, ↓vLc, ↓gI2, ↓gI2c, ↓gLen, ↓gII, ↓gI, ↓gInt1, ↓gRep, ↓gKids, ↓gIn, ↓iLst, ↓TL.iTup, ↓TL.iRng1, ↓TL.iRng2, ↓iEn, ↓iZp, ↓hName, ↓hCons, ↓hNil, ↓hTup, ↓wSl, ↓wIsi, ↓wYes, rho0, iniE, entOf, allSh, List.replicate, List.length_cons, List.length_nil, Nat.reduceAdd, Nat.reduceSub, Nat.reduceLT, Nat.reduceLeDiff, List.cons_append, List.nil_append, List.getElem?_cons_zero, List.getElem?_cons_succ, Option.bind_some, Ent.tr, Ent.own, Ent.put, setE, killA, noAl_ow, noAl_io1, noAl_no, noAl_ro, noAl_al', killJ_cons, killJ_nil0, noRo_ow, noRo_io, noRo_no, noRo_al, mem1, notIn, noRA_ow, noRA_io, noRA_no, noRA_al, Plc, demE, List.foldl_cons, List.foldl_nil, List.map_cons, List.map_nil, List.set_cons_zero, List.set_cons_succ, endsOf, ↓outsOf, Option.map_some, plSet, TL.putAt, T.put, true_and, and_true, lst_set, lst_snoc, lm_set, lm_snoc, shOnly, shE_ow0, shE_ow1, shE_io, shE_no, Option.isSome_some, reduceIte, if_true, if_false, Bool.false_eq_true, Nat.reduceEqDiff, ↓vRev, ↓vPure, frz_cons, frz_nil, frzE, ↓gInD, ↓vSortG, ↓vSortDT, ↓vAndB, ↓vOrB, dE, ↓tsT, pdsT, ↓tKeys_tk, lkT_E, putT_E])
section
variable {P : Program} {w : World} {K : PySem.W.Frag} {mg : Str → Option Value} {base : Heap}
def W__law_drawn_matrix : FnT := fun ts R => ∃ (a b c : Int) (n : Nat), ts = [Li [a, b, c], .int n] ∧ 2 ≤ n ∧ n ≤ 6 ∧ ∀ m a' c', Sq n m → R 0 (Lm m) [Li [a', b, c']]
theorem Sq.put {n : Nat} {m : List (List Int)} (s : Sq n m) {i j : Nat} {x : Int} (hi : i < n) : Sq n (m.set i ((m.getD i []).set j x)) := s.set (by rw [List.length_set]; exact (s.at hi).2)
set_option maxHeartbeats 4000000 in
theorem ok__law_drawn_matrix {k : Nat} (G : Gs K mg) : FnOk P w K mg base CX0 (k + 4) G.g__law_drawn_matrix.f G.g__law_drawn_matrix.d ["pool", "size"] (spT K [.io 1, .sh] W__law_drawn_matrix) := by
  refine fnT (k := k + 3) G.g__law_drawn_matrix.F sc__law_drawn_matrix rfl (fun X cdv A outer s H E hX hr => ?_)
  subst hX
  refine ⟨_, (ts_cons (ts_setLc (i := 2) (hc := rfl) (hN := sc__law_drawn_matrix.nd) (hy := rfl) (hyl := rfl) (hsw := sw_true rfl rfl rfl (by decide +kernel)) (own := [("k", 5)]) (k := 1) (js := [5]) (hi := (ti_rng1 (by rfl) G.z_range (tp_var 1))) (ok := (blkOk_by (N := ["pool", "size", "matrix", "i", "j", "k", "row"]) (sc := defScope s__law_drawn_matrix) (by decide +kernel))) (hg := fun _ _ _ _ _ => (tg_name 5 sc__law_drawn_matrix.nd rfl (.inl rfl))) (ht := fun _ _ _ _ _ => tvts_nil) (he := fun _ _ _ _ _ => (tv_rep (tp_lst (tpa_cons tp_int tpa_nil)) (tp_var 1))) (hj := by decide))
      (ts_cons (ts_for PassesOwn.never rfl (ti_rng1 (by rfl) G.z_range (tp_var 1)) (tg_name 3 sc__law_drawn_matrix.nd rfl (.inl rfl)) (ts_one (ts_for PassesOwn.never rfl (ti_rng1 (by rfl) G.z_range (tp_var 1)) (tg_name 4 sc__law_drawn_matrix.nd rfl (.inl rfl)) (ts_one (ts_if (TVW.pt (tvw_and (tvt_p (tpt_cmp op_ne opT_neS (tp_var 3) (tp_var 4) (nomark _))) (tvw_and1 (tvt_cmp op_eq opT_eqS (tv_call (ok__law_draw (k := k + 1) G) hr (by rfl) G.g__law_draw.g G.g__law_draw.F.kp G.g__law_draw.b (tca_sl 0 (tca_tv 0 (tv_p tp_int) tca_nil))) (tv_p tp_int) (nomark _))))) (ts_cons (ts_alias 6 2 sc__law_drawn_matrix.nd rfl (.inl rfl) (tp_var 3) (fun _ _ => rfl))
      (ts_one (ts_store 6 (tv_call (ok__law_pick (k := k + 0) G) hr (by rfl) G.g__law_pick.g G.g__law_pick.F.kp G.g__law_pick.b (tca_sl 0 (tca_tv 0 (tv_lst 0 (tva_cons 0 (tv_p tp_int) (tva_cons 0 (tv_op op_add opT_int (tv_p tp_int) (tv_call (ok__law_draw (k := k + 1) G) hr (by rfl) G.g__law_draw.g G.g__law_draw.F.kp G.g__law_draw.b (tca_sl 0 (tca_tv 0 (tv_p tp_int) tca_nil)))) (tva_cons 0 (tv_call (ok__law_draw (k := k + 1) G) hr (by rfl) G.g__law_draw.g G.g__law_draw.F.kp G.g__law_draw.b (tca_sl 0 (tca_tv 0 (tv_p tp_int) tca_nil))) tva_nil))) (by simp) (by decide)) tca_nil))) (tp_var 4)))) ts_nil)))))
      (ts_cons (ts_if (tvt_cmp op_eq opT_eqS (tv_call (ok__law_draw (k := k + 1) G) hr (by rfl) G.g__law_draw.g G.g__law_draw.F.kp G.g__law_draw.b (tca_sl 0 (tca_tv 0 (tv_p tp_int) tca_nil))) (tv_p tp_int) (nomark _)) (ts_one (ts_for PassesOwn.never rfl (ti_rng1 (by rfl) G.z_range (tp_var 1)) (tg_name 3 sc__law_drawn_matrix.nd rfl (.inl rfl)) (ts_one (ts_for PassesOwn.never rfl (ti_rng1 (by rfl) G.z_range (tp_var 3)) (tg_name 4 sc__law_drawn_matrix.nd rfl (.inl rfl)) (ts_cons (ts_alias 6 2 sc__law_drawn_matrix.nd rfl (.inl rfl) (tp_var 3) (fun _ _ => rfl))
      (ts_one (ts_store 6 (tv_p (tp_ix (tp_ix (tp_var 2) (tp_var 4) (fun _ _ => rfl)) (tp_var 3) (fun _ _ => rfl))) (tp_var 4)))))))) ts_nil)
      (ts_one (ts_ret (tv_fit 0 (tv_var 2))))))), fun ts R hW hlen => ?_⟩

  obtain ⟨a, b, c, n, rfl, n2, n6, h⟩ := hW
  walk_at "RD"
  rw [Int.toNat_natCast]
  refine ⟨by omega, by omega, fun i acc ρ => acc = accZ n i ∧ ρ = [Ent.io 1 (Li [a, b, c]), Ent.ow 0 (.int n), Ent.no, Ent.no, Ent.no, Ent.no, Ent.no], ⟨rfl, rfl⟩, fun i t acc ρ hi hI => ?_, fun acc ρ hI => ?_⟩
  · obtain ⟨rfl, rfl⟩ := hI
    obtain ⟨il, rfl⟩ := rgT_get.mp hi
    walk_at "RD"
    rw [Int.toNat_natCast, zeros_flat]
    refine ⟨by omega, by omega, by omega, flats_ints _, .inl (Nat.le_refl _), by rw [accZ_len]; omega, ?_⟩
    exact accZ_succ n i
  obtain ⟨rfl, rfl⟩ := hI
  rw [rgT_len]
  walk_at "RD"
  rw [Int.toNat_natCast]
  refine ⟨by omega, by omega, fun i ρ => ∃ m a c x3 x4 x6, Sq n m ∧ ρ = [Ent.io 1 (Li [a, b, c]), Ent.ow 0 (.int n), Ent.ow 2 (Lm m), x3, x4, Ent.no, x6], ⟨_, _, _, _, _, _, Sq.zero n, rfl⟩, fun i t ρ hi hI => ?_, fun ρ hI => ?_⟩
  · obtain ⟨m, a, c, x3, x4, x6, sq, rfl⟩ := hI
    obtain ⟨il, rfl⟩ := rgT_get.mp hi
    rw [Int.zero_add]
    walk_at "RD"
    rw [Int.toNat_natCast]
    refine ⟨by omega, by omega, fun j ρ => ∃ m a c x4 x6, Sq n m ∧ ρ = [Ent.io 1 (Li [a, b, c]), Ent.ow 0 (.int n), Ent.ow 2 (Lm m), Ent.ow 0 (.int i), x4, Ent.no, x6], ⟨_, _, _, _, _, sq, rfl⟩, fun j t ρ hj hI => ?_, fun ρ hI => ?_⟩
    · obtain ⟨m, a, c, x4, x6, sq, rfl⟩ := hI
      obtain ⟨jl, rfl⟩ := rgT_get.mp hj
      rw [Int.zero_add]
      walk_at "RD"
      refine ifS (fun _ => ?_) fun _ => ⟨_, _, _, _, _, sq, rfl⟩
      (repeat (first | refine ⟨rfl, ?_⟩ | refine ⟨fit0, ?_⟩))
      refine callDraw_io (m := 2) (by omega) (by omega) fun u a2 c2 _ _ => ?_
      have e1 : ixN (m.map fun xs => Li xs).length (i : Int) = some i := ixN_nat (by rw [List.length_map, sq.len]; exact il)
      have e3 : (m.map fun xs => Li xs)[i]? = some (Li (m.getD i [])) := by rw [List.getElem?_map, (sq.at il).1]; rfl
      (first | walk_at "RD" | skip); repeat (simp -dsimp only [e1, e3]; first | walk_at "RD" | skip)
      refine ⟨rfl, rfl, ifS (fun _ => ?_) fun _ => ⟨_, _, _, _, _, sq, rfl⟩⟩
      refine ⟨by decide, ?_⟩
      (repeat (first | refine ⟨rfl, ?_⟩ | refine ⟨fit0, ?_⟩))
      refine callDraw_io (m := 6) (by omega) (by omega) fun u3 a3 c3 _ _ => ?_
      walk_at "RD"
      (repeat (first | refine ⟨rfl, ?_⟩ | refine ⟨fit0, ?_⟩))
      refine callDraw_io (m := 41) (by omega) (by omega) fun u4 a4 c4 _ _ => ?_
      walk_at "RD"
      (repeat (first | refine ⟨rfl, ?_⟩ | refine ⟨fit0, ?_⟩))
      refine callPick_io (by show 0 < 3; decide) (by show 3 ≤ 1000; decide) fun v hv a5 c5 => ?_
      obtain ⟨v, rfl⟩ : ∃ z : Int, v = .int z := by
        simp only [List.mem_cons, List.not_mem_nil, or_false] at hv
        rcases hv with rfl | rfl | rfl <;> exact ⟨_, rfl⟩
      have e2 : ixN ((m.getD i []).map T.int).length (j : Int) = some j := ixN_nat (by rw [List.length_map, (sq.at il).2]; exact jl)
      (first | walk_at "RD" | skip); repeat (simp -dsimp only [e2]; first | walk_at "RD" | skip)
      exact ⟨fit0, _, _, _, _, _, sq.put il, rfl⟩
    · obtain ⟨m, a, c, x4, x6, sq, rfl⟩ := hI
      exact ⟨_, _, _, _, _, _, sq, rfl⟩
  obtain ⟨m, a, c, x3, x4, x6, sq, rfl⟩ := hI
  walk_at "RD"
  (repeat (first | refine ⟨rfl, ?_⟩ | refine ⟨fit0, ?_⟩))
  refine callDraw_io (m := 4) (by omega) (by omega) fun u a2 c2 _ _ => ?_
  walk_at "RD"
  refine ⟨rfl, rfl, ifS (fun _ => ?_) fun _ => ⟨fit0, h _ _ _ sq⟩⟩
  refine ⟨by omega, by omega, fun i ρ => ∃ m x3 x4 x6, Sq n m ∧ ρ = [Ent.io 1 (Li [a2, b, c2]), Ent.ow 0 (.int n), Ent.ow 2 (Lm m), x3, x4, Ent.no, x6], ⟨_, _, _, _, sq, rfl⟩, fun i t ρ hi hI => ?_, fun ρ hI => ?_⟩
  · clear sq m
    obtain ⟨m, x3, x4, x6, sq, rfl⟩ := hI
    obtain ⟨il, rfl⟩ := rgT_get.mp hi
    rw [Int.zero_add]
    rw [Int.toNat_natCast] at il
    walk_at "RD"
    rw [Int.toNat_natCast]
    refine ⟨by omega, by omega, fun j ρ => ∃ m x4 x6, Sq n m ∧ ρ = [Ent.io 1 (Li [a2, b, c2]), Ent.ow 0 (.int n), Ent.ow 2 (Lm m), Ent.ow 0 (.int i), x4, Ent.no, x6], ⟨_, _, _, sq, rfl⟩, fun j t ρ hj hI => ?_, fun ρ hI => ?_⟩
    · clear sq m
      obtain ⟨m, x4, x6, sq, rfl⟩ := hI
      obtain ⟨jl, rfl⟩ := rgT_get.mp hj
      rw [Int.zero_add]
      have e1 : ixN (m.map fun xs => Li xs).length (i : Int) = some i := ixN_nat (by rw [List.length_map, sq.len]; exact il)
      have e3 : (m.map fun xs => Li xs)[i]? = some (Li (m.getD i [])) := by rw [List.getElem?_map, (sq.at il).1]; rfl
      have e4 : (m.map fun xs => Li xs)[j]? = some (Li (m.getD j [])) := by rw [List.getElem?_map, (sq.at (show j < n by omega)).1]; rfl
      have e2 : ixN ((m.getD i []).map T.int).length (j : Int) = some j := ixN_nat (by rw [List.length_map, (sq.at il).2]; omega)
      (first | walk_at "RD" | skip); repeat (simp -dsimp only [e1, e3]; first | walk_at "RD" | skip)
      refine ⟨by decide, gIx_lst e4 (gIx_Li (at0_get (by rw [(sq.at (show j < n by omega)).2]; exact il)) ?_)⟩
      (first | walk_at "RD" | skip); repeat (simp -dsimp only [e2]; first | walk_at "RD" | skip)
      exact ⟨rfl, fit0, _, _, _, sq.put il, rfl⟩
    · obtain ⟨m, x4, x6, sq, rfl⟩ := hI
      exact ⟨_, _, _, _, sq, rfl⟩
  obtain ⟨m, x3, x4, x6, sq, rfl⟩ := hI
  walk_at "RD"
  exact ⟨fit0, h _ _ _ sq⟩
theorem cut_hi {ts : List T} {d : Nat} : cutT ts none (some (d : Int)) = ts.take d := by
  unfold cutT
  rw [HT.sIx_none, HT.sIx_nat, List.drop_zero, Nat.sub_zero]
  rcases Nat.le_total d ts.length with z | z
  · rw [Nat.min_eq_left z]
  · rw [Nat.min_eq_right z, List.take_length, List.take_of_length_le z]
theorem cut_lo {ts : List T} {d : Nat} : cutT ts (some (d : Int)) none = ts.drop d := by
  unfold cutT
  rw [HT.sIx_none, HT.sIx_nat]
  rcases Nat.le_total d ts.length with z | z
  · rw [Nat.min_eq_left z, List.take_of_length_le (by rw [List.length_drop]; exact Nat.le_refl _)]
  · rw [Nat.min_eq_right z, List.drop_length, List.drop_eq_nil_of_le z, List.take_nil]
def W__law_edge_tickets : FnT := fun ts R => ∃ (a b c : Int) (n : Nat) (tks : List Tk), ts = [Li [a, b, c], .int n, tsT tks] ∧ 2 ≤ n ∧ n ≤ 6 ∧ InR n tks ∧ tks.length ≤ 1000 ∧ ∀ more a' c', InR n more → more.length ≤ 1010 → R 0 (tsT more) [Li [a', b, c']]
set_option maxHeartbeats 4000000 in
theorem ok__law_edge_tickets {k : Nat} (G : Gs K mg) : FnOk P w K mg base CX0 (k + 4) G.g__law_edge_tickets.f G.g__law_edge_tickets.d ["pool", "size", "tickets"] (spT K [.io 1, .sh, .sh] W__law_edge_tickets) := by
  refine fnT (k := k + 3) G.g__law_edge_tickets.F sc__law_edge_tickets rfl (fun X cdv A outer s H E hX hr => ?_)
  subst hX
  refine ⟨_, (ts_cons (ts_set 3 sc__law_edge_tickets.nd rfl (.inr rfl) (tv_call (ok__law_draw (k := k + 1) G) hr (by rfl) G.g__law_draw.g G.g__law_draw.F.kp G.g__law_draw.b (tca_sl 0 (tca_tv 0 (tv_p (tp_var 1)) tca_nil))))
      (ts_cons (ts_set 4 sc__law_edge_tickets.nd rfl (.inr rfl) (tv_op op_mod opT_intc (tv_callTy call_int1 caT_int1 (by rfl) G.z_int (by decide +kernel) (tva_cons 0 (tv_op op_add opT_int (tv_p (tp_op op_add opT_int (tp_var 3) tp_int)) (tv_call (ok__law_draw (k := k + 1) G) hr (by rfl) G.g__law_draw.g G.g__law_draw.F.kp G.g__law_draw.b (tca_sl 0 (tca_tv 0 (tv_p (tp_op op_sub opT_int (tp_var 1) tp_int)) tca_nil)))) tva_nil)) (tv_p (tp_var 1))))
      (ts_cons (ts_set 5 sc__law_edge_tickets.nd rfl (.inl rfl) (tv_op op_add opT_int (tv_op op_sub opT_int (tv_p tp_int) (tv_callB (cr_sum rfl) caT_sum (by rfl) G.z_sum (by decide +kernel) (tva_cons 0 (tv_lc (own := [("row", 10)]) 0 [10] rfl sc__law_edge_tickets.nd (ti_lst (tv_var 2)) (blkOk_by (N := ["pool", "size", "tickets", "debtor", "creditor", "rest", "more", "k", "some", "at", "row"]) (sc := defScope s__law_edge_tickets) (by decide +kernel)) (fun _ _ _ _ _ => (tg_name 10 sc__law_edge_tickets.nd rfl (.inl rfl))) (fun _ _ _ _ _ => (tvts_one (tvt_p (tpt_cmp (op_eqD (eqU hr)) opT_eqD (tp_slT (tp_var 10) tpo_none (tpo_some tp_int)) (tp_tup (tpa_cons (tp_var 3) (tpa_cons (tp_var 4) tpa_nil))) (nomark _))))) (fun _ _ _ _ _ => (tv_p (tp_ix (tp_var 10) tp_int (fun _ _ => rfl)))) (by decide)) tva_nil))) (tv_call (ok__law_draw (k := k + 1) G) hr (by rfl) G.g__law_draw.g G.g__law_draw.F.kp G.g__law_draw.b (tca_sl 0 (tca_tv 0 (tv_p tp_int) tca_nil)))))
      (ts_cons (ts_set 6 sc__law_edge_tickets.nd rfl (.inl rfl) (tv_list (by rfl) G.z_list (tpa_cons (tp_var 2) tpa_nil)))
      (ts_cons (ts_for PassesOwn.never rfl (ti_rng1 (by rfl) G.z_range tp_int) (tg_name 7 sc__law_edge_tickets.nd rfl (.inl rfl)) (ts_cons (ts_set 8 sc__law_edge_tickets.nd rfl (.inl rfl) (tv_callB (call_min2 rfl) caT_ii (by rfl) G.z_min (by decide +kernel) (tva_cons 0 (tv_p (tp_var 5)) (tva_cons 0 (tv_call (ok__law_pick (k := k + 0) G) hr (by rfl) G.g__law_pick.g G.g__law_pick.F.kp G.g__law_pick.b (tca_sl 0 (tca_tv 0 (tv_lst 0 (tva_cons 0 (tv_p tp_int) (tva_cons 0 (tv_op op_add opT_int (tv_p tp_int) (tv_call (ok__law_draw (k := k + 1) G) hr (by rfl) G.g__law_draw.g G.g__law_draw.F.kp G.g__law_draw.b (tca_sl 0 (tca_tv 0 (tv_p tp_int) tca_nil)))) tva_nil)) (by simp) (by decide)) tca_nil))) tva_nil))))
      (ts_one (ts_if (tvt_p (tpt_cmp op_gt opT_bl (tp_var 8) tp_int (nomark _))) (ts_cons (ts_set 9 sc__law_edge_tickets.nd rfl (.inl rfl) (tv_call (ok__law_draw (k := k + 1) G) hr (by rfl) G.g__law_draw.g G.g__law_draw.F.kp G.g__law_draw.b (tca_sl 0 (tca_tv 0 (tv_p (tp_op op_add opT_int (tp_callB call_len_seq caT_len (by rfl) G.z_len PySem.boot_len (tpa_cons (tp_var 6) tpa_nil)) tp_int)) tca_nil))))
      (ts_cons (ts_set 6 sc__law_edge_tickets.nd rfl (.inl rfl) (tv_catV (tv_catV (tv_slice (tp_var 6) tpo_none (tpo_some (tp_var 9))) (tv_lst 0 (tva_cons 0 (tv_tup0 (tva_cons 0 (tv_p (tp_var 3)) (tva_cons 0 (tv_p (tp_var 4)) (tva_cons 0 (tv_p (tp_var 8)) (tva_cons 0 (tv_call (ok__law_draw (k := k + 1) G) hr (by rfl) G.g__law_draw.g G.g__law_draw.F.kp G.g__law_draw.b (tca_sl 0 (tca_tv 0 (tv_p tp_int) tca_nil))) tva_nil)))) (by simp) (by decide)) tva_nil) (by simp) (by decide))) (tv_slice (tp_var 6) (tpo_some (tp_var 9)) tpo_none)))
      (ts_one (ts_set 5 sc__law_edge_tickets.nd rfl (.inl rfl) (tv_p (tp_op op_sub opT_int (tp_var 5) (tp_var 8))))))) ts_nil))))
      (ts_one (ts_ret (tv_fit 0 (tv_var 6))))))))), fun ts R hW hlen => ?_⟩

  obtain ⟨a, b, c, n, tks, rfl, n2, n6, hr, lt, h⟩ := hW
  walk_at "RD"
  (repeat (first | refine ⟨rfl, ?_⟩ | refine ⟨fit0, ?_⟩))
  refine callDraw_io (m := n) (by omega) (by omega) fun d a1 c1 d0 d1 => ?_
  walk_at "RD"
  (repeat (first | refine ⟨rfl, ?_⟩ | refine ⟨fit0, ?_⟩))
  refine callDraw_io (m := n - 1) (by omega) (by omega) fun e a2 c2 e0 e1 => ?_
  walk_at "RD"
  (repeat (first | refine ⟨rfl, ?_⟩ | refine ⟨fit0, ?_⟩))
  refine ⟨by omega, ?_⟩
  (repeat (first | refine ⟨rfl, ?_⟩ | refine ⟨fit0, ?_⟩))
  have b0 : 0 ≤ (d + 1 + e) % (n : Int) := Int.emod_nonneg _ (by omega)
  have b1 : (d + 1 + e) % (n : Int) < n := Int.emod_lt_of_pos _ (by omega)
  generalize (d + 1 + e) % (n : Int) = cr at *
  refine ⟨fun i acc ρ => ∃ is y10, acc = is.map T.int ∧ is.length ≤ i ∧ ρ = [Ent.io 1 (Li [a2, b, c2]), Ent.ow 0 (.int n), Ent.ow 0 (tsT tks), Ent.ow 0 (.int d), Ent.ow 0 (.int cr), Ent.no, Ent.no, Ent.no, Ent.no, Ent.no, y10], ⟨[], _, rfl, Nat.le_refl _, rfl⟩, fun i t acc ρ hi hI => ?_, fun acc ρ hI => ?_⟩
  · obtain ⟨is, y10, rfl, il, rfl⟩ := hI
    obtain ⟨t, ht, rfl⟩ := tsT_get hi
    have tl := (List.getElem?_eq_some_iff.mp ht).1
    walk_at "RD"
    refine ⟨okd_eqok (n := 1) rfl (by omega), okd_eqok (n := 1) rfl (by omega), ifS (fun _ => ?_) fun _ => ⟨is, _, rfl, by omega, rfl⟩⟩
    (first | walk_at "RD" | skip); repeat (simp -dsimp only [g42]; first | walk_at "RD" | skip)
    exact ⟨rfl, fit0, by rw [List.length_map]; omega, is ++ [t.2.2.1], _, by rw [List.map_append]; rfl, by rw [List.length_append, List.length_singleton]; omega, rfl⟩
  obtain ⟨is, y10, rfl, il, rfl⟩ := hI
  walk_at "RD"
  refine ⟨fit0, gInts_Li _ ⟨rfl, rfl, ?_⟩⟩
  (repeat (first | refine ⟨rfl, ?_⟩ | refine ⟨fit0, ?_⟩))
  refine callDraw_io (m := 3) (by omega) (by omega) fun g a3 c3 g0 g1 => ?_
  walk_at "RD"
  refine ⟨rfl, flats_iff'.mpr fun t ht => by obtain ⟨z, _, rfl⟩ := List.mem_map.mp ht; rfl, ?_⟩
  generalize 40 - is.sum + g = rest at *
  refine ⟨by decide, by decide, fun i ρ => ∃ (more : List Tk) (rest a c : Int) (x7 x8 x9 x10 : Ent), InR n more ∧ more.length ≤ tks.length + i ∧ ρ = [Ent.io 1 (Li [a, b, c]), Ent.ow 0 (.int n), Ent.ow 0 (tsT tks), Ent.ow 0 (.int d), Ent.ow 0 (.int cr), Ent.ow 0 (.int rest), Ent.ow 1 (tsT more), x7, x8, x9, x10], ⟨tks, _, _, _, _, _, _, _, hr, Nat.le_refl _, rfl⟩, fun i t ρ hi hI => ?_, fun ρ hI => ?_⟩
  · clear rest
    obtain ⟨more, rest, a, c, x7, x8, x9, x10, hm, ml, rfl⟩ := hI
    obtain ⟨il, rfl⟩ := rgT_get.mp hi
    walk_at "RD"
    (repeat (first | refine ⟨rfl, ?_⟩ | refine ⟨fit0, ?_⟩))
    refine callDraw_io (m := 40) (by omega) (by omega) fun u3 a3 c3 _ _ => ?_
    walk_at "RD"
    (repeat (first | refine ⟨rfl, ?_⟩ | refine ⟨fit0, ?_⟩))
    refine callPick_io (by show 0 < 2; decide) (by show 2 ≤ 1000; decide) fun v hv a5 c5 => ?_
    obtain ⟨v, rfl⟩ : ∃ z : Int, v = .int z := by
      simp only [List.mem_cons, List.not_mem_nil, or_false] at hv
      rcases hv with rfl | rfl <;> exact ⟨_, rfl⟩
    walk_at "RD"
    generalize (if v < rest then v else rest) = some' at *
    have i4 : i < 4 := il
    refine ⟨fit0, rfl, ifS (fun q => ?_) fun _ => ⟨more, _, _, _, _, _, _, _, hm, by omega, rfl⟩⟩
    refine ⟨rfl, fit0, ?_⟩
    rw [List.length_map]
    refine callDraw_io (m := (more.length : Int) + 1) (by omega) (by omega) fun at' a6 c6 t0 t1 => ?_
    walk_at "RD"
    obtain ⟨at', rfl⟩ := Int.eq_ofNat_of_zero_le t0
    have ch : cutT (more.map tkT) none (some (at' : Int)) = (more.take at').map tkT := by rw [cut_hi, List.map_take]
    have cl : cutT (more.map tkT) (some (at' : Int)) none = (more.drop at').map tkT := by rw [cut_lo, List.map_drop]
    have ft : ∀ l : List Tk, T.flats (l.map tkT) = true := fun l => flats_iff'.mpr fun t ht => by obtain ⟨z, _, rfl⟩ := List.mem_map.mp ht; rfl
    rw [ch]
    refine ⟨ft _, rfl, fit0, rfl, fit0, rfl, fit0, rfl, fit0, ?_⟩
    refine callDraw_io (m := 401) (by omega) (by omega) fun g2 a7 c7 _ _ => ?_
    walk_at "RD"
    rw [cl]
    have e1 : (more.take at').map tkT ++ [T.tup [.int d, .int cr, .int some', .int g2]] = (more.take at' ++ [(d, cr, some', g2)]).map tkT := by rw [List.map_append]; rfl
    have e2 : (more.take at' ++ [(d, cr, some', g2)]).map tkT ++ (more.drop at').map tkT = (more.take at' ++ [(d, cr, some', g2)] ++ more.drop at').map tkT := by rw [← List.map_append]
    rw [e1, e2]
    have hm' : InR n (more.take at' ++ [(d, cr, some', g2)] ++ more.drop at') := fun t ht => by
      rcases List.mem_append.mp ht with ht | ht
      · rcases List.mem_append.mp ht with ht | ht
        · exact hm t (List.mem_of_mem_take ht)
        · rw [List.mem_singleton.mp ht]; exact ⟨⟨d0, d1⟩, b0, b1⟩
      · exact hm t (List.mem_of_mem_drop ht)
    have hl' : (more.take at' ++ [(d, cr, some', g2)] ++ more.drop at').length = more.length + 1 := by
      rw [List.length_append, List.length_append, List.length_singleton, List.length_take, List.length_drop]; omega
    generalize more.take at' ++ [(d, cr, some', g2)] ++ more.drop at' = nw at *
    refine ⟨fit0, fit0, ?_, ft _, ft _, ?_, ft _, rfl, nw, _, _, _, _, _, _, _, hm', by omega, rfl⟩
    · rw [List.length_map, List.length_take]; omega
    · rw [List.length_map, List.length_map, List.length_append, List.length_singleton, List.length_take, List.length_drop]; omega
  · obtain ⟨more, rest, a, c, x7, x8, x9, x10, hm, ml, rfl⟩ := hI
    rw [rgT_len] at ml
    walk_at "RD"
    exact ⟨fit0, h more _ _ hm (by have : (4 : Int).toNat = 4 := rfl; omega)⟩
end
end K95
set_option Elab.async false
set_option linter.all false
set_option maxRecDepth 100000
namespace K95
open PySem PySem.Spec PyProof.Rows L2 L2H TL
local macro_rules | `(tactic| walk_at "RD") => `(tactic| simp -dsimp only [↓uSeq, ↓uNext, ↓uFor, ↓uSt, ↓uStV, ↓uAu, ↓uAp, ↓uApMv, ↓uAuN, ↓uAlias, ↓uDem, ↓uBrk, ↓uCnt, ↓uNev, ↓uRet, ↓uRetN, ↓uExp, ↓uExpP, ↓uRaise1, ↓wCallX, ↓uExpX, ↓uRetX, ↓uSetX, ↓uTryE, ↓uForD, ↓uAsgT, ↓wSlT, ↓gCatT, ↓uForV, ↓uForI, ↓uDp, ↓uSt2, ↓uAu2, ↓uAp2, ↓uDemK, ↓wDG1, ↓wDG2, ↓wDisp, ↓vKD, ↓vKG, ↓vKL, ↓vDN, ↓vLend, ↓gDG, ↓gDI, ↓gGet, ↓gLenA, ↓gStrI, ↓gTupl, ↓gDict, ↓iZp3, ↓TL.iRngV, kidT, ↓tKey_int, ↓tKey_str, ↓tKey_kT, ↓tKeyL, ↓tKeys, ↓ownD, kidsOf, ndSet, dput, dlook, noX, rdE, demK, ↓gLtT, ↓iRngD, ↓vSortP, ↓vCat, ↓vCatV, ↓gCat, ↓uSet, ↓uSetR, ↓uIf, ↓wVar, ↓wVarV, ↓wC, ↓w1, ↓w2, ↓wT, asB, ↓wChain, ↓wNil, ↓wCons, ↓wAnd, ↓wOr, ↓wNot, ↓wAndV, ↓wOrV, ↓wNotV, ↓wIf, ↓wCallP, ↓wCallV, ↓wCa, ↓wTup, ↓wLst, ↓oNon, ↓oSom, ↓wSlice, ↓wRev, ↓vP, ↓vSh, ↓vFit, ↓vaNil, ↓vaCons, ↓vLst, ↓vTup, ↓vTup0, ↓vList, ↓vRep, ↓vSlice, ↓cSl, ↓vCallN, ↓v1, ↓vCa, ↓vIx, ↓tP, ↓vAnd, ↓vOr, ↓vNot, ↓vIf, ↓vT, ↓v2, ↓vLc, ↓gI2, ↓gI2c, ↓gLen, ↓gII, ↓gI, ↓gInt1, ↓gRep, ↓gKids, ↓gIn, ↓iLst, ↓TL.iTup, ↓TL.iRng1, ↓TL.iRng2, ↓iEn, ↓iZp, ↓hName, ↓hCons, ↓hNil, ↓hTup, ↓wSl, ↓wIsi, ↓wYes, rho0, iniE, entOf, allSh, List.replicate, List.length_cons, List.length_nil, Nat.reduceAdd, Nat.reduceSub, Nat.reduceLT, Nat.reduceLeDiff, List.cons_append, List.nil_append, List.getElem?_cons_zero, List.getElem?_cons_succ, Option.bind_some, Ent.tr, Ent.own, Ent.put, setE, killA, noAl_ow, noAl_io1, noAl_no, noAl_ro, noAl_al', killJ_cons, killJ_nil0, noRo_ow, noRo_io, noRo_no, noRo_al, mem1, notIn, noRA_ow, noRA_io, noRA_no, noRA_al, Plc, demE, List.foldl_cons, List.foldl_nil, List.map_cons, List.map_nil, List.set_cons_zero, List.set_cons_succ, endsOf, ↓outsOf, Option.map_some, plSet, TL.putAt, T.put, true_and, and_true, lst_set, lst_snoc, lm_set, lm_snoc, shOnly, shE_ow0, shE_ow1, shE_io, shE_no, Option.isSome_some, reduceIte, if_true, if_false, Bool.false_eq_true, Nat.reduceEqDiff, ↓vRev, ↓vPure, frz_cons, frz_nil, frzE, ↓gInD, ↓vSortG, ↓vSortDT, ↓vAndB, ↓vOrB, dE, ↓tsT, pdsT, ↓tKeys_tk, lkT_E, putT_E])
section
variable {P : Program} {w : World} {K : PySem.W.Frag} {mg : Str → Option Value} {base : Heap}
theorem callDraw_ow1 {R : Nat → T → List Ent → Prop} {u : KDep R} {a b c m : Int} {x : T} {e : Ent} {ρ : List Ent} (h0 : 0 < m) (h1 : m < 9223372036854775808) (h : ∀ v a' c', 0 ≤ v → v < m → R 0 (.int v) (noRo [1] e :: .ow 1 (Li [a', b, c']) :: killJ [1] ρ)) :
    callAt [.io 1, .sh] [.sl 1, .tv 0] W__law_draw R u [x, .int m] (e :: .ow 1 (Li [a, b, c]) :: ρ) := by
  have e1 : inT (e :: .ow 1 (Li [a, b, c]) :: ρ) [.io 1, .sh] [.sl 1, .tv 0] [x, .int m] = some [Li [a, b, c], .int m] := by simp [inT, Ent.own]
  unfold callAt
  rw [e1]
  refine ⟨a, b, c, m, rfl, h0, h1, fun v a' c' h2 h3 => ?_⟩
  show R 0 (.int v) (putL [(1, Li [a', b, c'])] 0 (noRo [1] e :: .ow 1 (Li [a, b, c]) :: killJ [1] ρ))
  have e2 : putL [(1, Li [a', b, c'])] 0 (noRo [1] e :: .ow 1 (Li [a, b, c]) :: killJ [1] ρ) = noRo [1] e :: .ow 1 (Li [a', b, c']) :: killJ [1] ρ := by
    rw [putL, putL, putL_none fun i hi => ?_]
    · rfl
    · show (match i == 1 with | true => some _ | false => List.lookup i []) = none
      rw [show (i == 1) = false from beq_eq_false_iff_ne.mpr (by omega)]; rfl
  rw [e2]
  exact h v a' c' h2 h3
structure SQ (t : T) (n : Nat) : Prop where
  ok : okq t n = true
  sm : smlT t = true
theorem SQ.lst {ts : List T} {n : Nat} (hl : ts.length ≤ 1100) (h : ∀ t ∈ ts, SQ t n) : SQ (.lst ts) (n + 1) := ⟨okqs_iff.mpr fun t ht => (h t ht).ok, by
  show (decide (ts.length ≤ 1000000) && smlTs ts) = true
  rw [Bool.and_eq_true]
  exact ⟨decide_eq_true (by omega), smlTs_iff.mpr fun t ht => (h t ht).sm⟩⟩
theorem SQ.tup {ts : List T} {n : Nat} (hl : ts.length ≤ 1100) (h : ∀ t ∈ ts, SQ t n) : SQ (.tup ts) (n + 1) := ⟨okqs_iff.mpr fun t ht => (h t ht).ok, by
  show (decide (ts.length ≤ 1000000) && smlTs ts) = true
  rw [Bool.and_eq_true]
  exact ⟨decide_eq_true (by omega), smlTs_iff.mpr fun t ht => (h t ht).sm⟩⟩
theorem SQ.int (i : Int) (n : Nat) : SQ (.int i) n := ⟨by cases n <;> rfl, rfl⟩
theorem SQ.tk (t : Tk) (n : Nat) : SQ (tkT t) (n + 1) := .tup (by simp) fun u hu => by
  simp only [List.mem_cons, List.not_mem_nil, or_false] at hu
  rcases hu with rfl | rfl | rfl | rfl <;> exact .int _ _
theorem SQ.pd (t : Pd) (n : Nat) : SQ (pdT t) (n + 2) := .tup (by simp) fun u hu => by
  simp only [List.mem_cons, List.not_mem_nil, or_false] at hu
  rcases hu with rfl | rfl
  · exact .tk _ _
  · exact .int _ _
theorem SQ.en (e : En) (n : Nat) : SQ (enT3 e) (n + 1) := .tup (by simp) fun u hu => by
  simp only [List.mem_cons, List.not_mem_nil, or_false] at hu
  rcases hu with rfl | rfl | rfl <;> exact .int _ _
theorem SQ.ts {l : List Tk} (n : Nat) (h : l.length ≤ 1100) : SQ (.lst (l.map tkT)) (n + 2) := .lst (by rw [List.length_map]; exact h) fun u hu => by
  obtain ⟨t, _, rfl⟩ := List.mem_map.mp hu
  exact .tk t n
theorem SQ.ps {l : List Pd} (n : Nat) (h : l.length ≤ 1100) : SQ (.lst (l.map pdT)) (n + 3) := .lst (by rw [List.length_map]; exact h) fun u hu => by
  obtain ⟨t, _, rfl⟩ := List.mem_map.mp hu
  exact .pd t n
theorem SQ.es {l : List En} (n : Nat) (h : l.length ≤ 1100) : SQ (.lst (l.map enT3)) (n + 2) := .lst (by rw [List.length_map]; exact h) fun u hu => by
  obtain ⟨t, _, rfl⟩ := List.mem_map.mp hu
  exact .en t n
theorem SQ.li {l : List Int} (n : Nat) (h : l.length ≤ 1100) : SQ (.lst (l.map T.int)) (n + 1) := .lst (by rw [List.length_map]; exact h) fun u hu => by
  obtain ⟨t, _, rfl⟩ := List.mem_map.mp hu
  exact .int t n
theorem SQ.lm {k : Nat} {m : List (List Int)} (n : Nat) (s : Sq k m) (h : k ≤ 6) : SQ (.lst (m.map fun xs => Li xs)) (n + 2) := .lst (by rw [List.length_map, s.len]; omega) fun u hu => by
  obtain ⟨t, ht, rfl⟩ := List.mem_map.mp hu
  exact .li n (by rw [s.row t ht]; omega)
theorem SQ.hs {k : Nat} {m : List (List Tk)} (n : Nat) (s : HL k 100 m) (h : k ≤ 6) : SQ (.lst (m.map tsT)) (n + 3) := .lst (by rw [List.length_map, s.len]; omega) fun u hu => by
  obtain ⟨t, ht, rfl⟩ := List.mem_map.mp hu
  obtain ⟨i, hi⟩ := List.mem_iff_getElem?.mp ht
  exact .ts n (by have := (s.each i t hi).1; omega)
theorem SQ.two {a b : T} {n : Nat} (h : SQ a n) (g : SQ b n) : SQ (.lst [a, b]) (n + 1) := .lst (by show 2 ≤ 1100; decide) fun u hu => by
  simp only [List.mem_cons, List.not_mem_nil, or_false] at hu
  rcases hu with rfl | rfl
  · exact h
  · exact g
theorem SQ.str {s : Str} (h : PyData.strOk s = true) (n : Nat) : SQ (.str s) n := ⟨by cases n <;> exact h, rfl⟩
theorem SQ.err (c : Int) (n : Nat) : SQ (errT c) (n + 3) := .tup (by simp) fun u hu => by
  simp only [List.mem_cons, List.not_mem_nil, or_false] at hu
  rcases hu with rfl | rfl
  · exact .str (by decide +kernel) _
  · refine .lst (by simp) fun u hu => ?_
    rw [List.mem_singleton.mp hu]
    refine .tup (by simp) fun u hu => ?_
    simp only [List.mem_cons, List.not_mem_nil, or_false] at hu
    rcases hu with rfl | rfl
    · exact .str (by decide +kernel) _
    · exact .int _ _
theorem HL.inr {n : Nat} {ls : List (List Tk)} (h : HL n 100 ls) {M : List Tk} (hm : IsM ls M) : InR n M := fun t ht => by
  obtain ⟨⟨i, l, _, hl, hx⟩, _⟩ := (hm.2.2 t).mp ht
  obtain ⟨_, a, b, _⟩ := (h.each i l hl).2 t hx
  exact ⟨a, b⟩
def W_law : FnT := fun ts R => ∃ ns : List Int, ts = [.scr ns] ∧ R 0 (.bl true) []
set_option maxHeartbeats 4000000 in
theorem ok_law {k : Nat} (G : Gs K mg) : FnOk P w K mg base CX0 (k + 9) G.g_law.f G.g_law.d ["script"] (spT K (allSh 1) W_law) := by
  refine fnT (k := k + 8) G.g_law.F sc_law rfl (fun X cdv A outer s H E hX hr => ?_)
  subst hX
  refine ⟨_, (ts_cons (ts_set 1 sc_law.nd rfl (.inl rfl) (tv_callN (ok__law_pool (k := k + 7) G) hr (by rfl) G.g__law_pool.g G.g__law_pool.F.kp G.g__law_pool.b (tpa_cons (tp_var 0) (tpa_cons tp_int (tpa_cons tp_int tpa_nil)))))
      (ts_cons (ts_set 2 sc_law.nd rfl (.inl rfl) (tv_op op_add opT_int (tv_p tp_int) (tv_call (ok__law_draw (k := k + 6) G) hr (by rfl) G.g__law_draw.g G.g__law_draw.F.kp G.g__law_draw.b (tca_sl 1 (tca_tv 0 (tv_p tp_int) tca_nil)))))
      (ts_consM (ts_set 3 sc_law.nd rfl (.inl rfl) (tv_call (ok__law_heard (k := k + 3) G) hr (by rfl) G.g__law_heard.g G.g__law_heard.F.kp G.g__law_heard.b (tca_tv 1 (tv_callN (ok__law_pool (k := k + 7) G) hr (by rfl) G.g__law_pool.g G.g__law_pool.F.kp G.g__law_pool.b (tpa_cons (tp_var 0) (tpa_cons tp_int (tpa_cons tp_int tpa_nil)))) (tca_tv 0 (tv_p (tp_var 2)) tca_nil))))
      (ts_consM (ts_set 4 sc_law.nd rfl (.inl rfl) (tv_call (ok__law_known (k := k + 7) G) hr (by rfl) G.g__law_known.g G.g__law_known.F.kp G.g__law_known.b (tca_tv 0 (tv_var 3) tca_nil)))
      (ts_consM (ts_setLc (i := 5) (hc := rfl) (hN := sc_law.nd) (hy := rfl) (hyl := rfl) (hsw := sw_true rfl rfl rfl (by decide +kernel)) (own := [("row", 15)]) (k := 0) (js := [15]) (hi := (ti_lst (tv_var 3))) (ok := (blkOk_by (N := ["script", "pool", "size", "lists", "known", "handed", "told", "half", "more", "tickets", "k", "mine", "due", "matrix", "rows", "row"]) (sc := defScope s_law) (by decide +kernel))) (hg := fun _ _ _ _ _ => (tg_name 15 sc_law.nd rfl (.inl rfl))) (ht := fun _ _ _ _ _ => tvts_nil) (he := fun _ _ _ _ _ => (tv_sh (tp_callTy call_list_of caT_list (by rfl) G.z_list (by decide +kernel) (tpa_cons (tp_var 15) tpa_nil)))) (hj := by decide))
      (ts_consM (ts_set 6 sc_law.nd rfl (.inl rfl) (tv_callN (ok_matched (k := k + 6) G) hr (by rfl) G.g_matched.g G.g_matched.F.kp G.g_matched.b (tpa_cons (tp_var 5) tpa_nil)))
      (ts_consM (ts_if (tvt_p (tpt_not (tpt_val (tp_call (ok__law_same 6 (k := k + 0) G) hr (by rfl) G.g__law_same.g G.g__law_same.F.kp G.g__law_same.b (tpa_cons (tp_lst (tpa_cons (tp_var 6) (tpa_cons (tp_var 5) tpa_nil))) (tpa_cons (tp_lst (tpa_cons (tp_ix (tp_var 4) tp_int (fun _ _ => rfl)) (tpa_cons (tp_var 3) tpa_nil))) tpa_nil)))))) (ts_one (ts_ret (tv_p tp_bl))) ts_nil)
      (ts_consM (ts_set 7 sc_law.nd rfl (.inl rfl) (tv_callN (ok_half_known (k := k + 6) G) hr (by rfl) G.g_half_known.g G.g_half_known.F.kp G.g_half_known.b (tpa_cons (tp_var 5) tpa_nil)))
      (ts_consM (ts_if (tvt_p (tpt_not (tpt_val (tp_call (ok__law_same 6 (k := k + 0) G) hr (by rfl) G.g__law_same.g G.g__law_same.F.kp G.g__law_same.b (tpa_cons (tp_lst (tpa_cons (tp_var 7) (tpa_cons (tp_var 5) tpa_nil))) (tpa_cons (tp_lst (tpa_cons (tp_ix (tp_var 4) tp_int (fun _ _ => rfl)) (tpa_cons (tp_var 3) tpa_nil))) tpa_nil)))))) (ts_one (ts_ret (tv_p tp_bl))) ts_nil)
      (ts_consM (ts_app 7 (tv_p tp_int))
      (ts_consM (ts_app 6 (tv_p tp_int))
      (ts_consM (ts_if (tvt_p (tpt_not (tpt_val (tp_call (ok__law_same 6 (k := k + 0) G) hr (by rfl) G.g__law_same.g G.g__law_same.F.kp G.g__law_same.b (tpa_cons (tp_lst (tpa_cons (tp_call (ok_matched (k := k + 6) G) hr (by rfl) G.g_matched.g G.g_matched.F.kp G.g_matched.b (tpa_cons (tp_var 5) tpa_nil)) (tpa_cons (tp_call (ok_half_known (k := k + 6) G) hr (by rfl) G.g_half_known.g G.g_half_known.F.kp G.g_half_known.b (tpa_cons (tp_var 5) tpa_nil)) tpa_nil))) (tpa_cons (tp_lst (tpa_cons (tp_ix (tp_var 4) tp_int (fun _ _ => rfl)) (tpa_cons (tp_ix (tp_var 4) tp_int (fun _ _ => rfl)) tpa_nil))) tpa_nil)))))) (ts_one (ts_ret (tv_p tp_bl))) ts_nil)
      (ts_consM (ts_set 8 sc_law.nd rfl (.inl rfl) (tv_call (ok__law_edge_tickets (k := k + 4) G) hr (by rfl) G.g__law_edge_tickets.g G.g__law_edge_tickets.F.kp G.g__law_edge_tickets.b (tca_tv 1 (tv_callN (ok__law_pool (k := k + 7) G) hr (by rfl) G.g__law_pool.g G.g__law_pool.F.kp G.g__law_pool.b (tpa_cons (tp_var 0) (tpa_cons tp_int (tpa_cons tp_int tpa_nil)))) (tca_tv 0 (tv_p (tp_var 2)) (tca_tv 0 (tv_if (tvt_cmp op_eq opT_eqS (tv_call (ok__law_draw (k := k + 6) G) hr (by rfl) G.g__law_draw.g G.g__law_draw.F.kp G.g__law_draw.b (tca_sl 1 (tca_tv 0 (tv_p tp_int) tca_nil))) (tv_p tp_int) (nomark _)) (tv_sh (tp_ix (tp_var 4) tp_int (fun _ _ => rfl))) (tv_sh (tp_lst tpa_nil))) tca_nil)))))
      (ts_consM (ts_for PassesOwn.never rfl (ti_lst (tv_sh (tp_lst (tpa_cons (tp_ix (tp_var 4) tp_int (fun _ _ => rfl)) (tpa_cons (tp_var 8) (tpa_cons (tp_rev (tp_var 8)) (tpa_cons (tp_lst tpa_nil) tpa_nil))))))) (tg_name 9 sc_law.nd rfl (.inl rfl)) (ts_consM (ts_set 11 sc_law.nd rfl (.inl rfl) (tv_sh (tp_callTy call_list_of caT_list (by rfl) G.z_list (by decide +kernel) (tpa_cons (tp_var 9) tpa_nil))))
      (ts_consM (ts_set 12 sc_law.nd rfl (.inl rfl) (tv_call (ok__law_too_much (k := k + 7) G) hr (by rfl) G.g__law_too_much.g G.g__law_too_much.F.kp G.g__law_too_much.b (tca_tv 0 (tv_call (ok__law_matrix (k := k + 7) G) hr (by rfl) G.g__law_matrix.g G.g__law_matrix.F.kp G.g__law_matrix.b (tca_tv 0 (tv_p (tp_var 2)) (tca_tv 0 (tv_var 9) tca_nil))) tca_nil)))
      (ts_one (ts_if (tvt_p (tpt_not (tpt_val (tp_call (ok__law_same 6 (k := k + 0) G) hr (by rfl) G.g__law_same.g G.g__law_same.F.kp G.g__law_same.b (tpa_cons (tp_lst (tpa_cons (tp_call (ok__law_debts (k := k + 4) G) hr (by rfl) G.g__law_debts.g G.g__law_debts.F.kp G.g__law_debts.b (tpa_cons (tp_var 2) (tpa_cons (tp_var 11) tpa_nil))) (tpa_cons (tp_var 11) tpa_nil))) (tpa_cons (tp_lst (tpa_cons (tp_var 12) (tpa_cons (tp_var 9) tpa_nil))) tpa_nil)))))) (ts_one (ts_ret (tv_p tp_bl))) ts_nil)))))
      (ts_consM (ts_for PassesOwn.never rfl (ti_rng1 (by rfl) G.z_range tp_int) (tg_name 10 sc_law.nd rfl (.inl rfl)) (ts_consM (ts_set 13 sc_law.nd rfl (.inl rfl) (tv_call (ok__law_drawn_matrix (k := k + 4) G) hr (by rfl) G.g__law_drawn_matrix.g G.g__law_drawn_matrix.F.kp G.g__law_drawn_matrix.b (tca_tv 1 (tv_callN (ok__law_pool (k := k + 7) G) hr (by rfl) G.g__law_pool.g G.g__law_pool.F.kp G.g__law_pool.b (tpa_cons (tp_var 0) (tpa_cons (tp_op op_add opT_int tp_int (tp_var 10)) (tpa_cons tp_int tpa_nil)))) (tca_tv 0 (tv_p (tp_var 2)) tca_nil))))
      (ts_consM (ts_setLc (i := 14) (hc := rfl) (hN := sc_law.nd) (hy := rfl) (hyl := rfl) (hsw := sw_true rfl rfl rfl (by decide +kernel)) (own := [("row", 15)]) (k := 0) (js := [15]) (hi := (ti_lst (tv_var 13))) (ok := (blkOk_by (N := ["script", "pool", "size", "lists", "known", "handed", "told", "half", "more", "tickets", "k", "mine", "due", "matrix", "rows", "row"]) (sc := defScope s_law) (by decide +kernel))) (hg := fun _ _ _ _ _ => (tg_name 15 sc_law.nd rfl (.inl rfl))) (ht := fun _ _ _ _ _ => tvts_nil) (he := fun _ _ _ _ _ => (tv_sh (tp_callTy call_list_of caT_list (by rfl) G.z_list (by decide +kernel) (tpa_cons (tp_var 15) tpa_nil)))) (hj := by decide))
      (ts_consM (ts_set 6 sc_law.nd rfl (.inl rfl) (tv_callN (ok_net_tickets (k := k + 6) G) hr (by rfl) G.g_net_tickets.g G.g_net_tickets.F.kp G.g_net_tickets.b (tpa_cons (tp_var 14) tpa_nil)))
      (ts_consM (ts_if (tvt_p (tpt_not (tpt_val (tp_call (ok__law_settles (k := k + 6) G) hr (by rfl) G.g__law_settles.g G.g__law_settles.F.kp G.g__law_settles.b (tpa_cons (tp_var 13) (tpa_cons (tp_var 6) tpa_nil)))))) (ts_one (ts_ret (tv_p tp_bl))) ts_nil)
      (ts_consM (ts_if (tvt_p (tpt_not (tpt_val (tp_call (ok__law_same 6 (k := k + 0) G) hr (by rfl) G.g__law_same.g G.g__law_same.F.kp G.g__law_same.b (tpa_cons (tp_lst (tpa_cons (tp_var 6) (tpa_cons (tp_var 14) tpa_nil))) (tpa_cons (tp_lst (tpa_cons (tp_call (ok__law_netted (k := k + 7) G) hr (by rfl) G.g__law_netted.g G.g__law_netted.F.kp G.g__law_netted.b (tpa_cons (tp_call (ok__law_positions (k := k + 7) G) hr (by rfl) G.g__law_positions.g G.g__law_positions.F.kp G.g__law_positions.b (tpa_cons (tp_var 13) tpa_nil)) tpa_nil)) (tpa_cons (tp_var 13) tpa_nil))) tpa_nil)))))) (ts_one (ts_ret (tv_p tp_bl))) ts_nil)
      (ts_consM (ts_app 6 (tv_sh (tp_tup (tpa_cons tp_int (tpa_cons tp_int (tpa_cons tp_int tpa_nil))))))
      (ts_one (ts_if (tvt_p (tpt_not (tpt_val (tp_call (ok__law_same 6 (k := k + 0) G) hr (by rfl) G.g__law_same.g G.g__law_same.F.kp G.g__law_same.b (tpa_cons (tp_call (ok_net_tickets (k := k + 6) G) hr (by rfl) G.g_net_tickets.g G.g_net_tickets.F.kp G.g_net_tickets.b (tpa_cons (tp_var 14) tpa_nil)) (tpa_cons (tp_call (ok__law_netted (k := k + 7) G) hr (by rfl) G.g__law_netted.g G.g__law_netted.F.kp G.g__law_netted.b (tpa_cons (tp_call (ok__law_positions (k := k + 7) G) hr (by rfl) G.g__law_positions.g G.g__law_positions.F.kp G.g__law_positions.b (tpa_cons (tp_var 13) tpa_nil)) tpa_nil)) tpa_nil)))))) (ts_one (ts_ret (tv_p tp_bl))) ts_nil)))))))))
      (ts_one (ts_ret (tv_p tp_bl)))))))))))))))))), fun ts R hW hlen => ?_⟩

  obtain ⟨ns, rfl, h⟩ := hW
  walk_at "RD"
  refine ⟨ns, 0, 93, rfl, by decide, fun a b => ?_⟩
  walk_at "RD"
  refine ⟨flatAt_Li, rfl, rfl, fit0, callDraw_ow1 (m := 5) (by omega) (by omega) fun d a1 c1 d0 d1 => ?_⟩
  obtain ⟨d, rfl⟩ := Int.eq_ofNat_of_zero_le d0
  walk_at "RD"
  have en : (2 : Int) + (d : Nat) = ((2 + d : Nat) : Int) := by omega
  rw [en]
  have n2 : 2 ≤ 2 + d := by omega
  have n6 : 2 + d ≤ 6 := by omega
  generalize 2 + d = n at *
  refine ⟨rfl, fun ρ => ∃ ls p c, HL n 100 ls ∧ ρ = [Ent.ow 0 (.scr ns), Ent.ow 1 (Li [p, b, c]), Ent.ow 0 (.int n), Ent.ow 0 (hsT ls), Ent.no, Ent.no, Ent.no, Ent.no, Ent.no, Ent.no, Ent.no, Ent.no, Ent.no, Ent.no, Ent.no, Ent.no], ?_, fun ρ hI => ?_⟩
  · walk_at "RD"
    refine ⟨ns, 1, 93, rfl, by decide, fun a b => ?_⟩
    walk_at "RD"
    refine ⟨flatAt_Li, .inl (Nat.le_refl _), rfl, fit0, callT2 ⟨a, b, 0, n, rfl, n2, n6, fun ls a' c' hl => ?_⟩⟩
    walk_at "RD"
    exact ⟨ls, _, _, hl, rfl⟩
  obtain ⟨ls, p, c, hl, rfl⟩ := hI
  refine ⟨fun ρ => ∃ M Hf, (IsM ls M ∧ IsH ls Hf ∧ M.length ≤ 600 ∧ Hf.length ≤ 600) ∧ ρ = [Ent.ow 0 (.scr ns), Ent.ow 1 (Li [p, b, c]), Ent.ow 0 (.int n), Ent.ow 0 (hsT ls), Ent.ow 0 (.tup [tsT M, pdsT Hf]), Ent.no, Ent.no, Ent.no, Ent.no, Ent.no, Ent.no, Ent.no, Ent.no, Ent.no, Ent.no, Ent.no], ?_, fun ρ hI => ?_⟩
  · walk_at "RD"
    refine ⟨fit0, callS1 ⟨n, ls, rfl, n6, hl, fun M Hf h1 h2 h3 h4 => ?_⟩⟩
    walk_at "RD"
    exact ⟨M, Hf, ⟨h1, h2, h3, h4⟩, rfl⟩
  obtain ⟨M, Hf, ⟨hM, hH, lM, lH⟩, rfl⟩ := hI
  refine ⟨fun ρ => ∃ y15, ρ = [Ent.ow 0 (.scr ns), Ent.ow 1 (Li [p, b, c]), Ent.ow 0 (.int n), Ent.ow 0 (hsT ls), Ent.ow 0 (.tup [tsT M, pdsT Hf]), Ent.ow 1 (hsT ls), Ent.no, Ent.no, Ent.no, Ent.no, Ent.no, Ent.no, Ent.no, Ent.no, Ent.no, y15], ?_, fun ρ hI => ?_⟩
  · unfold hsT
    walk_at "RD"
    refine ⟨fun i acc ρ => ∃ y15, acc = (ls.take i).map tsT ∧ ρ = [Ent.ow 0 (.scr ns), Ent.ow 1 (Li [p, b, c]), Ent.ow 0 (.int n), Ent.ow 0 (hsT ls), Ent.ow 0 (.tup [tsT M, pdsT Hf]), Ent.no, Ent.no, Ent.no, Ent.no, Ent.no, Ent.no, Ent.no, Ent.no, Ent.no, Ent.no, y15], ⟨_, rfl, rfl⟩, fun i t acc ρ hi hI => ?_, fun acc ρ hI => ?_⟩
    · obtain ⟨y15, rfl, rfl⟩ := hI
      obtain ⟨l, hl', rfl⟩ := hsT_get hi
      walk_at "RD"
      refine ⟨fit0, ?_, _, ?_, rfl⟩
      · rw [List.length_map, List.length_take, hl.len]; omega
      · rw [← take_snoc hl', List.map_append]; rfl
    · obtain ⟨y15, rfl, rfl⟩ := hI
      rw [List.length_map, List.take_length]
      walk_at "RD"
      exact ⟨_, rfl⟩
  obtain ⟨y15, rfl⟩ := hI
  refine ⟨fun ρ => ∃ y15, ρ = [Ent.ow 0 (.scr ns), Ent.ow 1 (Li [p, b, c]), Ent.ow 0 (.int n), Ent.ow 0 (hsT ls), Ent.ow 0 (.tup [tsT M, pdsT Hf]), Ent.ow 1 (hsT ls), Ent.ow 1 (tsT M), Ent.no, Ent.no, Ent.no, Ent.no, Ent.no, Ent.no, Ent.no, Ent.no, y15], ?_, fun ρ hI => ?_⟩
  · walk_at "RD"
    refine ⟨ls, rfl, hl.ok n6 |>.len, (hl.ok n6).l100, fun M' hM' => ?_⟩
    rw [hM'.unique hM]
    exact ⟨flats_iff'.mpr fun t ht => by obtain ⟨z, _, rfl⟩ := List.mem_map.mp ht; rfl, _, rfl⟩
  obtain ⟨y15, rfl⟩ := hI
  have sM : SQ (tsT M) 5 := .ts 3 (by omega)
  have sH : SQ (pdsT Hf) 5 := .ps 2 (by omega)
  have sL : SQ (hsT ls) 5 := .hs 2 hl n6
  refine ⟨fun ρ => ∃ y15, ρ = [Ent.ow 0 (.scr ns), Ent.ow 1 (Li [p, b, c]), Ent.ow 0 (.int n), Ent.ow 0 (hsT ls), Ent.ow 0 (.tup [tsT M, pdsT Hf]), Ent.ow 1 (hsT ls), Ent.ow 1 (tsT M), Ent.no, Ent.no, Ent.no, Ent.no, Ent.no, Ent.no, Ent.no, Ent.no, y15], ?_, fun ρ hI => ?_⟩
  · walk_at "RD"
    refine gIx_tup (i := 0) rfl ⟨_, rfl, by decide, (sM.two sL).ok, (sM.two sL).sm, ifF (by simp) ⟨_, rfl⟩⟩
  obtain ⟨y15, rfl⟩ := hI
  refine ⟨fun ρ => ∃ y15, ρ = [Ent.ow 0 (.scr ns), Ent.ow 1 (Li [p, b, c]), Ent.ow 0 (.int n), Ent.ow 0 (hsT ls), Ent.ow 0 (.tup [tsT M, pdsT Hf]), Ent.ow 1 (hsT ls), Ent.ow 1 (tsT M), Ent.ow 1 (pdsT Hf), Ent.no, Ent.no, Ent.no, Ent.no, Ent.no, Ent.no, Ent.no, y15], ?_, fun ρ hI => ?_⟩
  · walk_at "RD"
    refine ⟨ls, rfl, hl.ok n6, fun H' hH' => ?_⟩
    rw [hH'.unique hH]
    exact ⟨flats_iff'.mpr fun t ht => by obtain ⟨z, _, rfl⟩ := List.mem_map.mp ht; rfl, _, rfl⟩
  obtain ⟨y15, rfl⟩ := hI
  refine ⟨fun ρ => ∃ y15, ρ = [Ent.ow 0 (.scr ns), Ent.ow 1 (Li [p, b, c]), Ent.ow 0 (.int n), Ent.ow 0 (hsT ls), Ent.ow 0 (.tup [tsT M, pdsT Hf]), Ent.ow 1 (hsT ls), Ent.ow 1 (tsT M), Ent.ow 1 (pdsT Hf), Ent.no, Ent.no, Ent.no, Ent.no, Ent.no, Ent.no, Ent.no, y15], ?_, fun ρ hI => ?_⟩
  · walk_at "RD"
    refine gIx_tup (i := 1) rfl ⟨_, rfl, by decide, (sH.two sL).ok, (sH.two sL).sm, ifF (by simp) ⟨_, rfl⟩⟩
  obtain ⟨y15, rfl⟩ := hI
  refine ⟨fun ρ => ∃ x7 y15, ρ = [Ent.ow 0 (.scr ns), Ent.ow 1 (Li [p, b, c]), Ent.ow 0 (.int n), Ent.ow 0 (hsT ls), Ent.ow 0 (.tup [tsT M, pdsT Hf]), Ent.ow 1 (hsT ls), Ent.ow 1 (tsT M), x7, Ent.no, Ent.no, Ent.no, Ent.no, Ent.no, Ent.no, Ent.no, y15], ?_, fun ρ hI => ?_⟩
  · unfold pdsT
    walk_at "RD"
    exact ⟨rfl, fit0, by rw [List.length_map]; omega, _, _, rfl⟩
  obtain ⟨x7, y15, rfl⟩ := hI
  refine ⟨fun ρ => ∃ x6 x7 y15, ρ = [Ent.ow 0 (.scr ns), Ent.ow 1 (Li [p, b, c]), Ent.ow 0 (.int n), Ent.ow 0 (hsT ls), Ent.ow 0 (.tup [tsT M, pdsT Hf]), Ent.ow 1 (hsT ls), x6, x7, Ent.no, Ent.no, Ent.no, Ent.no, Ent.no, Ent.no, Ent.no, y15], ?_, fun ρ hI => ?_⟩
  · unfold tsT
    walk_at "RD"
    exact ⟨rfl, fit0, by rw [List.length_map]; omega, _, _, _, rfl⟩
  obtain ⟨x6, x7, y15, rfl⟩ := hI
  refine ⟨fun ρ => ∃ x6 x7 y15, ρ = [Ent.ow 0 (.scr ns), Ent.ow 1 (Li [p, b, c]), Ent.ow 0 (.int n), Ent.ow 0 (hsT ls), Ent.ow 0 (.tup [tsT M, pdsT Hf]), Ent.ow 1 (hsT ls), x6, x7, Ent.no, Ent.no, Ent.no, Ent.no, Ent.no, Ent.no, Ent.no, y15], ?_, fun ρ hI => ?_⟩
  · walk_at "RD"
    refine ⟨ls, rfl, (hl.ok n6).len, (hl.ok n6).l100, fun M' hM' => ⟨ls, rfl, hl.ok n6, fun H' hH' => ?_⟩⟩
    rw [hH'.unique hH, hM'.unique hM]
    refine gIx_tup (i := 0) rfl (gIx_tup (i := 1) rfl ⟨_, rfl, by decide, (sM.two sH).ok, (sM.two sH).sm, ifF (by simp) ⟨_, _, _, rfl⟩⟩)
  obtain ⟨x6, x7, y15, rfl⟩ := hI
  refine ⟨fun ρ => ∃ more p c x6 x7 y15, (InR n more ∧ more.length ≤ 1010) ∧ ρ = [Ent.ow 0 (.scr ns), Ent.ow 1 (Li [p, b, c]), Ent.ow 0 (.int n), Ent.ow 0 (hsT ls), Ent.ow 0 (.tup [tsT M, pdsT Hf]), Ent.ow 1 (hsT ls), x6, x7, Ent.ow 0 (tsT more), Ent.no, Ent.no, Ent.no, Ent.no, Ent.no, Ent.no, y15], ?_, fun ρ hI => ?_⟩
  · walk_at "RD"
    refine ⟨ns, 2, 93, rfl, by decide, fun a b2 => ?_⟩
    walk_at "RD"
    refine ⟨flatAt_Li, .inl (Nat.le_refl _), rfl, fit0, rfl, fit0, callDraw_ow1 (m := 2) (by omega) (by omega) fun u a3 c3 u0 u1 => ?_⟩
    walk_at "RD"
    refine ⟨rfl, rfl, ifS (fun _ => gIx_tup (i := 0) rfl ⟨fit0, callT3 ⟨a, b2, 0, n, M, rfl, n2, n6, hl.inr hM, by omega, fun more a' c' h1 h2 => ?_⟩⟩) fun _ => ⟨fit0, callT3 ⟨a, b2, 0, n, [], rfl, n2, n6, fun t ht => absurd ht (by simp), by simp, fun more a' c' h1 h2 => ?_⟩⟩⟩
    · walk_at "RD"
      exact ⟨more, _, _, _, _, _, ⟨h1, h2⟩, rfl⟩
    · walk_at "RD"
      exact ⟨more, _, _, _, _, _, ⟨h1, h2⟩, rfl⟩
  obtain ⟨more, p, c, x6, x7, y15, ⟨hr, lm⟩, rfl⟩ := hI
  refine ⟨fun ρ => ∃ x6 x7 x9 x11 x12 y15, ρ = [Ent.ow 0 (.scr ns), Ent.ow 1 (Li [p, b, c]), Ent.ow 0 (.int n), Ent.ow 0 (hsT ls), Ent.ow 0 (.tup [tsT M, pdsT Hf]), Ent.ow 1 (hsT ls), x6, x7, Ent.ow 0 (tsT more), x9, Ent.no, x11, x12, Ent.no, Ent.no, y15], ?_, fun ρ hI => ?_⟩
  · walk_at "RD"
    refine gIx_tup (i := 0) rfl ?_
    show forOk _ _ _ _ _
    refine ⟨fun i ρ => ∃ x6 x7 x9 x11 x12 y15, ρ = [Ent.ow 0 (.scr ns), Ent.ow 1 (Li [p, b, c]), Ent.ow 0 (.int n), Ent.ow 0 (hsT ls), Ent.ow 0 (.tup [tsT M, pdsT Hf]), Ent.ow 1 (hsT ls), x6, x7, Ent.ow 0 (tsT more), x9, Ent.no, x11, x12, Ent.no, Ent.no, y15], ⟨_, _, _, _, _, _, rfl⟩, fun i t ρ hi hI => ?_, fun ρ hI => hI⟩
    obtain ⟨x6, x7, x9, x11, x12, y15, rfl⟩ := hI
    obtain ⟨tk, rfl, hk, lk⟩ : ∃ tk : List Tk, t = tsT tk ∧ InR n tk ∧ tk.length ≤ 1010 := by
      match i, hi with
      | 0, hi => cases hi; exact ⟨M, rfl, hl.inr hM, by omega⟩
      | 1, hi => cases hi; exact ⟨more, rfl, hr, lm⟩
      | 2, hi => cases hi; exact ⟨more.reverse, by unfold tsT; rw [List.map_reverse], fun t ht => hr t (List.mem_reverse.mp ht), by rw [List.length_reverse]; exact lm⟩
      | 3, hi => cases hi; exact ⟨[], rfl, fun t ht => absurd ht (by simp), by simp⟩
      | _ + 4, hi => cases hi
    have sT : SQ (tsT tk) 5 := .ts 3 (by omega)
    have sq := Sq.debt hk
    refine ⟨(by decide : 9 < 16), fun (ρ : List Ent) => ∃ (x6 x7 x12 y15 : Ent), ρ = [Ent.ow 0 (.scr ns), Ent.ow 1 (Li [p, b, c]), Ent.ow 0 (.int n), Ent.ow 0 (hsT ls), Ent.ow 0 (.tup [tsT M, pdsT Hf]), Ent.ow 1 (hsT ls), x6, x7, Ent.ow 0 (tsT more), Ent.ow 0 (tsT tk), Ent.no, Ent.ow 0 (tsT tk), x12, Ent.no, Ent.no, y15], ?_, fun ρ hI => ?_⟩
    · unfold tsT
      walk_at "RD"
      exact ⟨_, _, _, _, rfl⟩
    obtain ⟨x6, x7, x12, y15, rfl⟩ := hI
    refine ⟨fun ρ => ∃ x6 x7 y15, ρ = [Ent.ow 0 (.scr ns), Ent.ow 1 (Li [p, b, c]), Ent.ow 0 (.int n), Ent.ow 0 (hsT ls), Ent.ow 0 (.tup [tsT M, pdsT Hf]), Ent.ow 1 (hsT ls), x6, x7, Ent.ow 0 (tsT more), Ent.ow 0 (tsT tk), Ent.no, Ent.ow 0 (tsT tk), Ent.ow 0 (tmT (debtM n tk)), Ent.no, Ent.no, y15], ?_, fun ρ hI => ?_⟩
    · walk_at "RD"
      refine ⟨rfl, fit0, fit0, callS2 ⟨n, tk, rfl, n6, hk, ?_⟩⟩
      walk_at "RD"
      refine ⟨fit0, callS1 ⟨n, _, rfl, n6, sq, ?_⟩⟩
      walk_at "RD"
      exact ⟨_, _, _, rfl⟩
    obtain ⟨x6, x7, y15, rfl⟩ := hI
    walk_at "RD"
    refine ⟨n, tk, rfl, n6, hk, fun e => ?_, fun q e => ?_⟩
    · have et : tmT (debtM n tk) = Lm (debtM n tk) := by unfold tmT; rw [e]
      rw [et]
      have s2 : SQ (T.lst [Lm (debtM n tk), tsT tk]) 6 := SQ.two (.lm 3 sq n6) sT
      exact ⟨_, rfl, by decide, s2.ok, s2.sm, ifF (by simp) ⟨_, _, _, _, _, _, rfl⟩⟩
    · have et : tmT (debtM n tk) = errT q := by unfold tmT; rw [e]
      rw [et]
      have s2 : SQ (T.lst [errT q, tsT tk]) 6 := SQ.two (.err q 2) sT
      exact ⟨_, rfl, by decide, s2.ok, s2.sm, ifF (by simp) ⟨_, _, _, _, _, _, rfl⟩⟩
  obtain ⟨x6, x7, x9, x11, x12, y15, rfl⟩ := hI
  refine ⟨fun ρ => ∃ x6 x7 x9 x10 x11 x12 x13 x14 y15, ρ = [Ent.ow 0 (.scr ns), Ent.ow 1 (Li [p, b, c]), Ent.ow 0 (.int n), Ent.ow 0 (hsT ls), Ent.ow 0 (.tup [tsT M, pdsT Hf]), Ent.ow 1 (hsT ls), x6, x7, Ent.ow 0 (tsT more), x9, x10, x11, x12, x13, x14, y15], ?_, fun ρ hI => ?_⟩
  · walk_at "RD"
    refine ⟨by decide, by decide, fun i ρ => ∃ x6 x7 x9 x10 x11 x12 x13 x14 y15, ρ = [Ent.ow 0 (.scr ns), Ent.ow 1 (Li [p, b, c]), Ent.ow 0 (.int n), Ent.ow 0 (hsT ls), Ent.ow 0 (.tup [tsT M, pdsT Hf]), Ent.ow 1 (hsT ls), x6, x7, Ent.ow 0 (tsT more), x9, x10, x11, x12, x13, x14, y15], ⟨_, _, _, _, _, _, _, _, _, rfl⟩, fun i t ρ hi hI => ?_, fun ρ hI => hI⟩
    obtain ⟨x6, x7, x9, x10, x11, x12, x13, x14, y15, rfl⟩ := hI
    obtain ⟨il, rfl⟩ := rgT_get.mp hi
    refine ⟨(by decide : 10 < 16), fun (ρ : List Ent) => ∃ (m : List (List Int)) (x6 x7 x9 x10 x11 x12 x14 y15 : Ent), Sq n m ∧ ρ = [Ent.ow 0 (.scr ns), Ent.ow 1 (Li [p, b, c]), Ent.ow 0 (.int n), Ent.ow 0 (hsT ls), Ent.ow 0 (.tup [tsT M, pdsT Hf]), Ent.ow 1 (hsT ls), x6, x7, Ent.ow 0 (tsT more), x9, x10, x11, x12, Ent.ow 0 (Lm m), x14, y15], ?_, fun ρ hI => ?_⟩
    · rw [Int.zero_add]
      walk_at "RD"
      refine ⟨ns, 3 + i, 93, rfl, by omega, fun a b2 => ?_⟩
      walk_at "RD"
      refine ⟨flatAt_Li, .inl (Nat.le_refl _), rfl, fit0, callT2 ⟨a, b2, 0, n, rfl, n2, n6, fun m a' c' sq => ?_⟩⟩
      walk_at "RD"
      exact ⟨m, _, _, _, _, _, _, _, _, sq, rfl⟩
    obtain ⟨m, x6, x7, x9, x10, x11, x12, x14, y15, sq, rfl⟩ := hI
    refine ⟨fun ρ => ∃ x6 x7 x9 x10 x11 x12 y15, ρ = [Ent.ow 0 (.scr ns), Ent.ow 1 (Li [p, b, c]), Ent.ow 0 (.int n), Ent.ow 0 (hsT ls), Ent.ow 0 (.tup [tsT M, pdsT Hf]), Ent.ow 1 (hsT ls), x6, x7, Ent.ow 0 (tsT more), x9, x10, x11, x12, Ent.ow 0 (Lm m), Ent.ow 1 (Lm m), y15], ?_, fun ρ hI => ?_⟩
    · walk_at "RD"
      refine ⟨fun i acc ρ => ∃ x6 x7 x9 x10 x11 x12 x14 y15, acc = (m.take i).map (fun xs => Li xs) ∧ ρ = [Ent.ow 0 (.scr ns), Ent.ow 1 (Li [p, b, c]), Ent.ow 0 (.int n), Ent.ow 0 (hsT ls), Ent.ow 0 (.tup [tsT M, pdsT Hf]), Ent.ow 1 (hsT ls), x6, x7, Ent.ow 0 (tsT more), x9, x10, x11, x12, Ent.ow 0 (Lm m), x14, y15], ⟨_, _, _, _, _, _, _, _, rfl, rfl⟩, fun i t acc ρ hi hI => ?_, fun acc ρ hI => ?_⟩
      · obtain ⟨x6, x7, x9, x10, x11, x12, x14, y15, rfl, rfl⟩ := hI
        obtain ⟨l, hl', rfl⟩ := lm_get hi
        walk_at "RD"
        refine ⟨fit0, ?_, _, _, _, _, _, _, _, _, ?_, rfl⟩
        · rw [List.length_map, List.length_take]; have := sq.len; omega
        · rw [← take_snoc hl', List.map_append]; rfl
      · obtain ⟨x6, x7, x9, x10, x11, x12, x14, y15, rfl, rfl⟩ := hI
        rw [List.length_map, List.take_length]
        walk_at "RD"
        exact ⟨_, _, _, _, _, _, _, rfl⟩
    obtain ⟨x6, x7, x9, x10, x11, x12, y15, rfl⟩ := hI
    have sm : SQ (Lm m) 5 := .lm 3 sq n6
    have pl : (posF m).length ≤ 6 := by rw [posF_len, sq.len]; exact n6
    refine ⟨fun ρ => ∃ es x7 x9 x10 x11 x12 y15, (Net (posF m) es ∧ es.length ≤ 6) ∧ ρ = [Ent.ow 0 (.scr ns), Ent.ow 1 (Li [p, b, c]), Ent.ow 0 (.int n), Ent.ow 0 (hsT ls), Ent.ow 0 (.tup [tsT M, pdsT Hf]), Ent.ow 1 (hsT ls), Ent.ow 1 (esT es), x7, Ent.ow 0 (tsT more), x9, x10, x11, x12, Ent.ow 0 (Lm m), Ent.ow 1 (Lm m), y15], ?_, fun ρ hI => ?_⟩
    · walk_at "RD"
      refine ⟨n, m, rfl, n6, sq, fun es h1 h2 => ?_⟩
      exact ⟨flats_iff'.mpr fun t ht => by obtain ⟨z, _, rfl⟩ := List.mem_map.mp ht; rfl, es, _, _, _, _, _, _, ⟨h1, h2⟩, rfl⟩
    obtain ⟨es, x7, x9, x10, x11, x12, y15, ⟨net, e6⟩, rfl⟩ := hI
    have se : SQ (esT es) 5 := .es 3 (by omega)
    refine ⟨fun ρ => ∃ x7 x9 x10 x11 x12 y15, ρ = [Ent.ow 0 (.scr ns), Ent.ow 1 (Li [p, b, c]), Ent.ow 0 (.int n), Ent.ow 0 (hsT ls), Ent.ow 0 (.tup [tsT M, pdsT Hf]), Ent.ow 1 (hsT ls), Ent.ow 1 (esT es), x7, Ent.ow 0 (tsT more), x9, x10, x11, x12, Ent.ow 0 (Lm m), Ent.ow 1 (Lm m), y15], ?_, fun ρ hI => ?_⟩
    · walk_at "RD"
      exact ⟨n, m, es, rfl, n6, sq, net, e6, ifF (by simp) ⟨_, _, _, _, _, _, rfl⟩⟩
    obtain ⟨x7, x9, x10, x11, x12, y15, rfl⟩ := hI
    refine ⟨fun ρ => ∃ x7 x9 x10 x11 x12 y15, ρ = [Ent.ow 0 (.scr ns), Ent.ow 1 (Li [p, b, c]), Ent.ow 0 (.int n), Ent.ow 0 (hsT ls), Ent.ow 0 (.tup [tsT M, pdsT Hf]), Ent.ow 1 (hsT ls), Ent.ow 1 (esT es), x7, Ent.ow 0 (tsT more), x9, x10, x11, x12, Ent.ow 0 (Lm m), Ent.ow 1 (Lm m), y15], ?_, fun ρ hI => ?_⟩
    · walk_at "RD"
      refine ⟨n, m, rfl, n6, sq, posF m, rfl, pl, ?_⟩
      rw [net.law]
      exact ⟨_, rfl, by decide, (se.two sm).ok, (se.two sm).sm, ifF (by simp) ⟨_, _, _, _, _, _, rfl⟩⟩
    obtain ⟨x7, x9, x10, x11, x12, y15, rfl⟩ := hI
    refine ⟨fun ρ => ∃ x6 x7 x9 x10 x11 x12 y15, ρ = [Ent.ow 0 (.scr ns), Ent.ow 1 (Li [p, b, c]), Ent.ow 0 (.int n), Ent.ow 0 (hsT ls), Ent.ow 0 (.tup [tsT M, pdsT Hf]), Ent.ow 1 (hsT ls), x6, x7, Ent.ow 0 (tsT more), x9, x10, x11, x12, Ent.ow 0 (Lm m), Ent.ow 1 (Lm m), y15], ?_, fun ρ hI => ?_⟩
    · unfold esT
      walk_at "RD"
      exact ⟨fit0, by rw [List.length_map]; omega, _, _, _, _, _, _, _, rfl⟩
    obtain ⟨x6, x7, x9, x10, x11, x12, y15, rfl⟩ := hI
    walk_at "RD"
    refine ⟨n, m, rfl, n6, sq, fun es' h1 h2 => ⟨n, m, rfl, n6, sq, posF m, rfl, pl, ?_⟩⟩
    rw [net.law, h1.unique net]
    have se : SQ (esT es) 6 := .es 4 (by omega)
    exact ⟨_, rfl, by decide, se.ok, se.sm, ifF (by simp) ⟨_, _, _, _, _, _, _, _, _, rfl⟩⟩
  obtain ⟨x6, x7, x9, x10, x11, x12, x13, x14, y15, rfl⟩ := hI
  walk_at "RD"
  exact ⟨rfl, h⟩
end
end K95
set_option Elab.async false
set_option linter.all false
set_option maxRecDepth 100000
namespace K95
open PySem PySem.Spec PyProof.Rows L2 TL
theorem sqf_of {K : PySem.W.Frag} {H : Hp} {a : Addr} {vs : List V} (h : SqL K H a vs) (ho : Only H) : SqF K H a vs := by
  rcases h with (h | ⟨o, h⟩) | h
  · rcases ho a with z | ⟨o, xs, z⟩
    · rw [h] at z; cases z
    · rw [h] at z; cases z
  · exact .inl ⟨o, h⟩
  · exact .inr h
theorem law_sp {K : PySem.W.Frag} {H : Hp} {a : Addr} {ns : List Int} {E : XK} (hO : Only H) (hS : SqL K H a (ns.map V.int)) : spT K (allSh 1) W_law [.ref a] H (fun v _ => v = .bl true) E := by
  have hs : Shrs K H (fun _ => True) [.scr ns] [.ref a] := Shrs.cons (.scr (sqf_of hS hO)) .nil
  refine spT_pure (n := 1) (R := fun _ t => t = .bl true) hs (fun P ps e => by rcases hO P with z | ⟨o, xs, z⟩ <;> (rw [e] at z; cases z)) rfl ⟨ns, rfl, rfl⟩ fun m t v H' S' F h1 _ own _ _ _ _ => ?_
  subst h1
  cases own
  rfl
theorem kit_self {K : PySem.W.Frag} {v : Value} (h : (v == v) = true := by simp) : PySem.W.kitOne K v v = some true := if_pos h
theorem kit_cl {K : PySem.W.Frag} {C D : Addr} {b : Bool} (h2 : PySem.W.isClsIn K D = true) (h3 : PySem.W.typeIn K (.ref D) = some (.type "type")) (h4 : PySem.W.subIn K (.ref C) (.ref D) = some b) : PySem.W.kitCls K (.ref C) (.ref D) = some b := by
  have e2 : ((PySem.W.clsIn K D).isSome && PySem.W.typeIn K (.ref D) == some (.type "type")) = true := by
    have h2' : (PySem.W.clsIn K D).isSome = true := h2
    rw [h2', h3] <;> rfl
  show (if ((PySem.W.clsIn K D).isSome && PySem.W.typeIn K (.ref D) == some (.type "type")) = true then PySem.W.subIn K (.ref C) (.ref D) else none) = some b
  rw [if_pos e2]
  exact h4
theorem kit_no {K : PySem.W.Frag} {C D : Addr} (h1 : PySem.W.subIn K (.ref C) (.ref C) = some true) (h2 : PySem.W.isClsIn K D = true) (h3 : PySem.W.typeIn K (.ref D) = some (.type "type")) (h4 : PySem.W.subIn K (.ref C) (.ref D) = some false) : PySem.W.kitOne K (.ref C) (.ref D) = some false := by
  have ne : C ≠ D := fun e => by rw [← e, h1] at h4; cases h4
  have ne2 : ¬ ((Value.ref C == Value.ref D) = true) := fun e => ne (by have := eq_of_beq e; cases this; rfl)
  unfold PySem.W.kitOne
  rw [if_neg ne2]
  exact kit_cl h2 h3 h4
theorem kit_VE {K : PySem.W.Frag} {C : Addr} (h4 : PySem.W.subIn K (.ref C) (.type "ValueError") = some true) : PySem.W.kitOne K (.ref C) (.type "ValueError") = some true := by
  have ne2 : ¬ ((Value.ref C == Value.type "ValueError") = true) := fun e => by have := eq_of_beq e; cases this
  unfold PySem.W.kitOne
  rw [if_neg ne2]
  have e2 : PySem.W.kitMeta "ValueError" = true := by decide +kernel
  show (if PySem.W.kitMeta "ValueError" = true then _ else none) = some true
  rw [if_pos e2]
  exact h4
theorem exm_cl {K : PySem.W.Frag} {C D : Addr} (h1 : PySem.W.subIn K (.ref D) (.type "BaseException") = some true) (h2 : PySem.W.isClsIn K D = true) (h3 : PySem.W.typeIn K (.ref D) = some (.type "type")) (h4 : PySem.W.subIn K (.ref C) (.ref D) = some true) : PySem.W.exmOne K (.ref C) (.ref D) = some true := by
  have e1 : (PySem.W.subIn K (.ref D) (.type "BaseException") == some true) = true := by rw [h1] <;> rfl
  show (if (PySem.W.subIn K (.ref D) (.type "BaseException") == some true) = true then PySem.W.kitCls K (.ref C) (.ref D) else none) = some true
  rw [if_pos e1]
  exact kit_cl h2 h3 h4
set_option maxHeartbeats 4000000 in
theorem all_mk {l : PySem.W.OpenLaw} {w : World} {K : PySem.W.Frag} {h : Heap} {mg : Str → Option Value} {fa f0 f1 f2 f3 f4 f5 f6 f7 f8 f9 f10 f11 f12 f13 f14 f15 f16 f17 f18 f19 f20 f21 f22 f23 f24 CPensionError CBadNumber CBadDay CNoName CClash CFull CRefused CTooFar CTooLarge CTooMuch CBadLine CNoUndo : Addr} (X : K.In h) (G : h.Ns mainGlobals mg) (hfa : mg "law" = some (.ref fa))
    {od0 od1 od2 od3 od4 od5 od6 od7 od8 od9 od10 od11 od12 od13 od14 od15 od16 od17 od18 od19 od20 od21 od22 od23 od24 an0 an1 an2 an3 an4 an5 an6 an7 an8 an9 an10 an11 an12 an13 an14 an15 an16 an17 an18 an19 an20 an21 an22 an23 an24 : Option Addr} {sl0 sl1 sl2 sl3 sl4 sl5 sl6 sl7 sl8 sl9 sl10 sl11 sl12 sl13 sl14 sl15 sl16 sl17 sl18 sl19 sl20 sl21 sl22 sl23 sl24 : Array (Option Value)} {oc0 oc1 oc2 oc3 oc4 oc5 oc6 oc7 oc8 oc9 oc10 oc11 oc12 oc13 oc14 oc15 oc16 oc17 oc18 oc19 oc20 oc21 oc22 oc23 oc24 kV0 kV1 kV2 kV3 kV4 kV5 kV6 kV7 kV8 kV9 kV10 kV11 kV12 kV13 kV14 kV15 kV16 kV17 kV18 kV19 kV20 kV21 kV22 kV23 kV24 dc0 dc1 dc2 dc3 dc4 dc5 dc6 dc7 dc8 dc9 dc10 dc11 dc12 dc13 dc14 dc15 dc16 dc17 dc18 dc19 dc20 dc21 dc22 dc23 dc24 pm0 pm1 pm2 pm3 pm4 pm5 pm6 pm7 pm8 pm9 pm10 pm11 pm12 pm13 pm14 pm15 pm16 pm17 pm18 pm19 pm20 pm21 pm22 pm23 pm24 cd0 cd1 cd2 cd3 cd4 cd5 cd6 cd7 cd8 cd9 cd10 cd11 cd12 cd13 cd14 cd15 cd16 cd17 cd18 cd19 cd20 cd21 cd22 cd23 cd24 ct0 ct1 ct2 ct3 ct4 ct5 ct6 ct7 ct8 ct9 ct10 ct11 ct12 ct13 ct14 ct15 ct16 ct17 ct18 ct19 ct20 ct21 ct22 ct23 ct24 : Value} {t0 : Tok} {nmTooMuch qTooMuch : Str} {NTooMuch dITooMuch : Addr} {bsTooMuch bmTooMuch subTooMuch : List Value} {snTooMuch : List Str} {abTooMuch : Bool} {colTooMuch : Option Bool} {ddTooMuch odITooMuch anITooMuch : Option Addr} {m0TooMuch m1TooMuch m2TooMuch m3TooMuch m5TooMuch : Option Value} {slITooMuch : Array (Option Value)} {ocITooMuch kVITooMuch dcITooMuch pmITooMuch cdITooMuch ctITooMuch : Value}
    (a0 : PySem.W.nsIn K mainGlobals "hearers" = some (some (.ref f0)))
    (l0 : K.lookup f0 = some ⟨oc0, od0, .func (PySem.W.fnOf "hearers" "hearers" (defArgs s_hearers) (defBody s_hearers) (defScope s_hearers) .none kV0 dc0 pm0 an0 cd0 ct0), sl0⟩)
    (c0 : PySem.W.codeIn K cd0 "hearers" = true)
    (k0 : PySem.W.keepIn K (.ref f0) = true)
    (a1 : PySem.W.nsIn K mainGlobals "matched" = some (some (.ref f1)))
    (l1 : K.lookup f1 = some ⟨oc1, od1, .func (PySem.W.fnOf "matched" "matched" (defArgs s_matched) (defBody s_matched) (defScope s_matched) .none kV1 dc1 pm1 an1 cd1 ct1), sl1⟩)
    (c1 : PySem.W.codeIn K cd1 "matched" = true)
    (k1 : PySem.W.keepIn K (.ref f1) = true)
    (a2 : PySem.W.nsIn K mainGlobals "half_known" = some (some (.ref f2)))
    (l2 : K.lookup f2 = some ⟨oc2, od2, .func (PySem.W.fnOf "half_known" "half_known" (defArgs s_half_known) (defBody s_half_known) (defScope s_half_known) .none kV2 dc2 pm2 an2 cd2 ct2), sl2⟩)
    (c2 : PySem.W.codeIn K cd2 "half_known" = true)
    (k2 : PySem.W.keepIn K (.ref f2) = true)
    (a3 : PySem.W.nsIn K mainGlobals "debts_of" = some (some (.ref f3)))
    (l3 : K.lookup f3 = some ⟨oc3, od3, .func (PySem.W.fnOf "debts_of" "debts_of" (defArgs s_debts_of) (defBody s_debts_of) (defScope s_debts_of) .none kV3 dc3 pm3 an3 cd3 ct3), sl3⟩)
    (c3 : PySem.W.codeIn K cd3 "debts_of" = true)
    (k3 : PySem.W.keepIn K (.ref f3) = true)
    (a4 : PySem.W.nsIn K mainGlobals "positions" = some (some (.ref f4)))
    (l4 : K.lookup f4 = some ⟨oc4, od4, .func (PySem.W.fnOf "positions" "positions" (defArgs s_positions) (defBody s_positions) (defScope s_positions) .none kV4 dc4 pm4 an4 cd4 ct4), sl4⟩)
    (c4 : PySem.W.codeIn K cd4 "positions" = true)
    (k4 : PySem.W.keepIn K (.ref f4) = true)
    (a5 : PySem.W.nsIn K mainGlobals "net_tickets" = some (some (.ref f5)))
    (l5 : K.lookup f5 = some ⟨oc5, od5, .func (PySem.W.fnOf "net_tickets" "net_tickets" (defArgs s_net_tickets) (defBody s_net_tickets) (defScope s_net_tickets) .none kV5 dc5 pm5 an5 cd5 ct5), sl5⟩)
    (c5 : PySem.W.codeIn K cd5 "net_tickets" = true)
    (k5 : PySem.W.keepIn K (.ref f5) = true)
    (a6 : PySem.W.nsIn K mainGlobals "_law_pool" = some (some (.ref f6)))
    (l6 : K.lookup f6 = some ⟨oc6, od6, .func (PySem.W.fnOf "_law_pool" "_law_pool" (defArgs s__law_pool) (defBody s__law_pool) (defScope s__law_pool) .none kV6 dc6 pm6 an6 cd6 ct6), sl6⟩)
    (c6 : PySem.W.codeIn K cd6 "_law_pool" = true)
    (k6 : PySem.W.keepIn K (.ref f6) = true)
    (a7 : PySem.W.nsIn K mainGlobals "_law_mix" = some (some (.ref f7)))
    (l7 : K.lookup f7 = some ⟨oc7, od7, .func (PySem.W.fnOf "_law_mix" "_law_mix" (defArgs s__law_mix) (defBody s__law_mix) (defScope s__law_mix) .none kV7 dc7 pm7 an7 cd7 ct7), sl7⟩)
    (c7 : PySem.W.codeIn K cd7 "_law_mix" = true)
    (k7 : PySem.W.keepIn K (.ref f7) = true)
    (a8 : PySem.W.nsIn K mainGlobals "_law_draw" = some (some (.ref f8)))
    (l8 : K.lookup f8 = some ⟨oc8, od8, .func (PySem.W.fnOf "_law_draw" "_law_draw" (defArgs s__law_draw) (defBody s__law_draw) (defScope s__law_draw) .none kV8 dc8 pm8 an8 cd8 ct8), sl8⟩)
    (c8 : PySem.W.codeIn K cd8 "_law_draw" = true)
    (k8 : PySem.W.keepIn K (.ref f8) = true)
    (a9 : PySem.W.nsIn K mainGlobals "_law_pick" = some (some (.ref f9)))
    (l9 : K.lookup f9 = some ⟨oc9, od9, .func (PySem.W.fnOf "_law_pick" "_law_pick" (defArgs s__law_pick) (defBody s__law_pick) (defScope s__law_pick) .none kV9 dc9 pm9 an9 cd9 ct9), sl9⟩)
    (c9 : PySem.W.codeIn K cd9 "_law_pick" = true)
    (k9 : PySem.W.keepIn K (.ref f9) = true)
    (a10 : PySem.W.nsIn K mainGlobals "_law_whole" = some (some (.ref f10)))
    (l10 : K.lookup f10 = some ⟨oc10, od10, .func (PySem.W.fnOf "_law_whole" "_law_whole" (defArgs s__law_whole) (defBody s__law_whole) (defScope s__law_whole) .none kV10 dc10 pm10 an10 cd10 ct10), sl10⟩)
    (c10 : PySem.W.codeIn K cd10 "_law_whole" = true)
    (k10 : PySem.W.keepIn K (.ref f10) = true)
    (a11 : PySem.W.nsIn K mainGlobals "_law_same" = some (some (.ref f11)))
    (l11 : K.lookup f11 = some ⟨oc11, od11, .func (PySem.W.fnOf "_law_same" "_law_same" (defArgs s__law_same) (defBody s__law_same) (defScope s__law_same) .none kV11 dc11 pm11 an11 cd11 ct11), sl11⟩)
    (c11 : PySem.W.codeIn K cd11 "_law_same" = true)
    (k11 : PySem.W.keepIn K (.ref f11) = true)
    (a12 : PySem.W.nsIn K mainGlobals "_law_error" = some (some (.ref f12)))
    (l12 : K.lookup f12 = some ⟨oc12, od12, .func (PySem.W.fnOf "_law_error" "_law_error" (defArgs s__law_error) (defBody s__law_error) (defScope s__law_error) .none kV12 dc12 pm12 an12 cd12 ct12), sl12⟩)
    (c12 : PySem.W.codeIn K cd12 "_law_error" = true)
    (k12 : PySem.W.keepIn K (.ref f12) = true)
    (a13 : PySem.W.nsIn K mainGlobals "_law_ticket" = some (some (.ref f13)))
    (l13 : K.lookup f13 = some ⟨oc13, od13, .func (PySem.W.fnOf "_law_ticket" "_law_ticket" (defArgs s__law_ticket) (defBody s__law_ticket) (defScope s__law_ticket) .none kV13 dc13 pm13 an13 cd13 ct13), sl13⟩)
    (c13 : PySem.W.codeIn K cd13 "_law_ticket" = true)
    (k13 : PySem.W.keepIn K (.ref f13) = true)
    (a14 : PySem.W.nsIn K mainGlobals "_law_heard" = some (some (.ref f14)))
    (l14 : K.lookup f14 = some ⟨oc14, od14, .func (PySem.W.fnOf "_law_heard" "_law_heard" (defArgs s__law_heard) (defBody s__law_heard) (defScope s__law_heard) .none kV14 dc14 pm14 an14 cd14 ct14), sl14⟩)
    (c14 : PySem.W.codeIn K cd14 "_law_heard" = true)
    (k14 : PySem.W.keepIn K (.ref f14) = true)
    (a15 : PySem.W.nsIn K mainGlobals "_law_known" = some (some (.ref f15)))
    (l15 : K.lookup f15 = some ⟨oc15, od15, .func (PySem.W.fnOf "_law_known" "_law_known" (defArgs s__law_known) (defBody s__law_known) (defScope s__law_known) .none kV15 dc15 pm15 an15 cd15 ct15), sl15⟩)
    (c15 : PySem.W.codeIn K cd15 "_law_known" = true)
    (k15 : PySem.W.keepIn K (.ref f15) = true)
    (a16 : PySem.W.nsIn K mainGlobals "_law_matrix" = some (some (.ref f16)))
    (l16 : K.lookup f16 = some ⟨oc16, od16, .func (PySem.W.fnOf "_law_matrix" "_law_matrix" (defArgs s__law_matrix) (defBody s__law_matrix) (defScope s__law_matrix) .none kV16 dc16 pm16 an16 cd16 ct16), sl16⟩)
    (c16 : PySem.W.codeIn K cd16 "_law_matrix" = true)
    (k16 : PySem.W.keepIn K (.ref f16) = true)
    (a17 : PySem.W.nsIn K mainGlobals "_law_too_much" = some (some (.ref f17)))
    (l17 : K.lookup f17 = some ⟨oc17, od17, .func (PySem.W.fnOf "_law_too_much" "_law_too_much" (defArgs s__law_too_much) (defBody s__law_too_much) (defScope s__law_too_much) .none kV17 dc17 pm17 an17 cd17 ct17), sl17⟩)
    (c17 : PySem.W.codeIn K cd17 "_law_too_much" = true)
    (k17 : PySem.W.keepIn K (.ref f17) = true)
    (a18 : PySem.W.nsIn K mainGlobals "_law_debts" = some (some (.ref f18)))
    (l18 : K.lookup f18 = some ⟨oc18, od18, .func (PySem.W.fnOf "_law_debts" "_law_debts" (defArgs s__law_debts) (defBody s__law_debts) (defScope s__law_debts) .none kV18 dc18 pm18 an18 cd18 ct18), sl18⟩)
    (c18 : PySem.W.codeIn K cd18 "_law_debts" = true)
    (k18 : PySem.W.keepIn K (.ref f18) = true)
    (a19 : PySem.W.nsIn K mainGlobals "_law_positions" = some (some (.ref f19)))
    (l19 : K.lookup f19 = some ⟨oc19, od19, .func (PySem.W.fnOf "_law_positions" "_law_positions" (defArgs s__law_positions) (defBody s__law_positions) (defScope s__law_positions) .none kV19 dc19 pm19 an19 cd19 ct19), sl19⟩)
    (c19 : PySem.W.codeIn K cd19 "_law_positions" = true)
    (k19 : PySem.W.keepIn K (.ref f19) = true)
    (a20 : PySem.W.nsIn K mainGlobals "_law_netted" = some (some (.ref f20)))
    (l20 : K.lookup f20 = some ⟨oc20, od20, .func (PySem.W.fnOf "_law_netted" "_law_netted" (defArgs s__law_netted) (defBody s__law_netted) (defScope s__law_netted) .none kV20 dc20 pm20 an20 cd20 ct20), sl20⟩)
    (c20 : PySem.W.codeIn K cd20 "_law_netted" = true)
    (k20 : PySem.W.keepIn K (.ref f20) = true)
    (a21 : PySem.W.nsIn K mainGlobals "_law_settles" = some (some (.ref f21)))
    (l21 : K.lookup f21 = some ⟨oc21, od21, .func (PySem.W.fnOf "_law_settles" "_law_settles" (defArgs s__law_settles) (defBody s__law_settles) (defScope s__law_settles) .none kV21 dc21 pm21 an21 cd21 ct21), sl21⟩)
    (c21 : PySem.W.codeIn K cd21 "_law_settles" = true)
    (k21 : PySem.W.keepIn K (.ref f21) = true)
    (a22 : PySem.W.nsIn K mainGlobals "_law_edge_tickets" = some (some (.ref f22)))
    (l22 : K.lookup f22 = some ⟨oc22, od22, .func (PySem.W.fnOf "_law_edge_tickets" "_law_edge_tickets" (defArgs s__law_edge_tickets) (defBody s__law_edge_tickets) (defScope s__law_edge_tickets) .none kV22 dc22 pm22 an22 cd22 ct22), sl22⟩)
    (c22 : PySem.W.codeIn K cd22 "_law_edge_tickets" = true)
    (k22 : PySem.W.keepIn K (.ref f22) = true)
    (a23 : PySem.W.nsIn K mainGlobals "_law_drawn_matrix" = some (some (.ref f23)))
    (l23 : K.lookup f23 = some ⟨oc23, od23, .func (PySem.W.fnOf "_law_drawn_matrix" "_law_drawn_matrix" (defArgs s__law_drawn_matrix) (defBody s__law_drawn_matrix) (defScope s__law_drawn_matrix) .none kV23 dc23 pm23 an23 cd23 ct23), sl23⟩)
    (c23 : PySem.W.codeIn K cd23 "_law_drawn_matrix" = true)
    (k23 : PySem.W.keepIn K (.ref f23) = true)
    (a24 : PySem.W.nsIn K mainGlobals "law" = some (some (.ref f24)))
    (l24 : K.lookup f24 = some ⟨oc24, od24, .func (PySem.W.fnOf "law" "law" (defArgs s_law) (defBody s_law) (defScope s_law) .none kV24 dc24 pm24 an24 cd24 ct24), sl24⟩)
    (c24 : PySem.W.codeIn K cd24 "law" = true)
    (k24 : PySem.W.keepIn K (.ref f24) = true)
    (cst0 : PySem.W.nsIn K mainGlobals "GREATEST_DEBT" = some (some (.int 40 t0)))
    (hPensionError : PySem.W.nsIn K mainGlobals "PensionError" = some (some (.ref CPensionError)))
    (hBadNumber : PySem.W.nsIn K mainGlobals "BadNumber" = some (some (.ref CBadNumber)))
    (hBadDay : PySem.W.nsIn K mainGlobals "BadDay" = some (some (.ref CBadDay)))
    (hNoName : PySem.W.nsIn K mainGlobals "NoName" = some (some (.ref CNoName)))
    (hClash : PySem.W.nsIn K mainGlobals "Clash" = some (some (.ref CClash)))
    (hFull : PySem.W.nsIn K mainGlobals "Full" = some (some (.ref CFull)))
    (hRefused : PySem.W.nsIn K mainGlobals "Refused" = some (some (.ref CRefused)))
    (hTooFar : PySem.W.nsIn K mainGlobals "TooFar" = some (some (.ref CTooFar)))
    (hTooLarge : PySem.W.nsIn K mainGlobals "TooLarge" = some (some (.ref CTooLarge)))
    (hTooMuch : PySem.W.nsIn K mainGlobals "TooMuch" = some (some (.ref CTooMuch)))
    (hBadLine : PySem.W.nsIn K mainGlobals "BadLine" = some (some (.ref CBadLine)))
    (hNoUndo : PySem.W.nsIn K mainGlobals "NoUndo" = some (some (.ref CNoUndo)))
    (iPensionError : PySem.W.isClsIn K CPensionError = true)
    (yPensionError : PySem.W.typeIn K (.ref CPensionError) = some (.type "type"))
    (iBadNumber : PySem.W.isClsIn K CBadNumber = true)
    (yBadNumber : PySem.W.typeIn K (.ref CBadNumber) = some (.type "type"))
    (iBadDay : PySem.W.isClsIn K CBadDay = true)
    (yBadDay : PySem.W.typeIn K (.ref CBadDay) = some (.type "type"))
    (iNoName : PySem.W.isClsIn K CNoName = true)
    (yNoName : PySem.W.typeIn K (.ref CNoName) = some (.type "type"))
    (iClash : PySem.W.isClsIn K CClash = true)
    (yClash : PySem.W.typeIn K (.ref CClash) = some (.type "type"))
    (iFull : PySem.W.isClsIn K CFull = true)
    (yFull : PySem.W.typeIn K (.ref CFull) = some (.type "type"))
    (iRefused : PySem.W.isClsIn K CRefused = true)
    (yRefused : PySem.W.typeIn K (.ref CRefused) = some (.type "type"))
    (iTooFar : PySem.W.isClsIn K CTooFar = true)
    (yTooFar : PySem.W.typeIn K (.ref CTooFar) = some (.type "type"))
    (iTooLarge : PySem.W.isClsIn K CTooLarge = true)
    (yTooLarge : PySem.W.typeIn K (.ref CTooLarge) = some (.type "type"))
    (iTooMuch : PySem.W.isClsIn K CTooMuch = true)
    (yTooMuch : PySem.W.typeIn K (.ref CTooMuch) = some (.type "type"))
    (iBadLine : PySem.W.isClsIn K CBadLine = true)
    (yBadLine : PySem.W.typeIn K (.ref CBadLine) = some (.type "type"))
    (iNoUndo : PySem.W.isClsIn K CNoUndo = true)
    (yNoUndo : PySem.W.typeIn K (.ref CNoUndo) = some (.type "type"))
    (eP : PySem.W.subIn K (.ref CPensionError) (.type "BaseException") = some true)
    (n1 : PySem.W.specialIn K (.builtin "object.__class__") "__get__" = some (some (.builtin "getset_descriptor.__get__")))
    (n2 : PySem.W.takesIn K (.builtin "object.__class__") = some true)
    (xLTooMuch : K.lookup CTooMuch = some (excClassObj nmTooMuch qTooMuch CTooMuch NTooMuch bsTooMuch bmTooMuch true snTooMuch subTooMuch abTooMuch colTooMuch ddTooMuch m0TooMuch m1TooMuch m2TooMuch m3TooMuch m5TooMuch "ValueError.__new__"))
    (rBTooMuch : PySem.HandSPX.refsVE bmTooMuch = true)
    (saTooMuch : PySem.W.findIn K (.ref CTooMuch) "__setattr__" = some (some (.builtin "object.__setattr__")))
    (gaTooMuch : PySem.W.findIn K (.ref CTooMuch) "__getattribute__" = some (some (.builtin "BaseException.__getattribute__")))
    (ggTooMuch : PySem.W.findIn K (.ref CTooMuch) "__getattr__" = some none)
    (gcTooMuch : PySem.W.findIn K (.ref CTooMuch) "__class__" = some (some (.builtin "object.__class__")))
    (nbTooMuch : PySem.W.findIn K (.ref CTooMuch) "coins" = some none)
    (nITooMuch : PySem.W.findIn K (.ref CTooMuch) "__init__" = some (some (.ref dITooMuch)))
    (tITooMuch : PySem.W.typeIn K (.ref dITooMuch) = some (.type "function"))
    (lITooMuch : K.lookup dITooMuch = some ⟨ocITooMuch, odITooMuch, .func (PySem.W.fnOf "__init__" "TooMuch.__init__" (defArgs i_TooMuch) (defBody i_TooMuch) (defScope i_TooMuch) .none kVITooMuch dcITooMuch pmITooMuch anITooMuch cdITooMuch ctITooMuch), slITooMuch⟩)
    (cITooMuch : PySem.W.codeIn K cdITooMuch "TooMuch.__init__" = true)
    (kITooMuch : PySem.W.keepIn K (.ref dITooMuch) = true)
    (kCTooMuch : PySem.W.keepIn K (.ref CTooMuch) = true)
    (eCTooMuch : PySem.W.subIn K (.ref CTooMuch) (.type "BaseException") = some true)
    (vCTooMuch : PySem.W.subIn K (.ref CTooMuch) (.type "ValueError") = some true)
    (hCTooMuch : PySem.W.hasDictIn K CTooMuch = true)
    (mOTooMuch : PySem.W.mroIn K CTooMuch (.type "object") = some true)
    (sTooMuch_PensionError : PySem.W.subIn K (.ref CTooMuch) (.ref CPensionError) = some true)
    (sTooMuch_BadNumber : PySem.W.subIn K (.ref CTooMuch) (.ref CBadNumber) = some false)
    (sTooMuch_BadDay : PySem.W.subIn K (.ref CTooMuch) (.ref CBadDay) = some false)
    (sTooMuch_NoName : PySem.W.subIn K (.ref CTooMuch) (.ref CNoName) = some false)
    (sTooMuch_Clash : PySem.W.subIn K (.ref CTooMuch) (.ref CClash) = some false)
    (sTooMuch_Full : PySem.W.subIn K (.ref CTooMuch) (.ref CFull) = some false)
    (sTooMuch_Refused : PySem.W.subIn K (.ref CTooMuch) (.ref CRefused) = some false)
    (sTooMuch_TooFar : PySem.W.subIn K (.ref CTooMuch) (.ref CTooFar) = some false)
    (sTooMuch_TooLarge : PySem.W.subIn K (.ref CTooMuch) (.ref CTooLarge) = some false)
    (sTooMuch_TooMuch : PySem.W.subIn K (.ref CTooMuch) (.ref CTooMuch) = some true)
    (sTooMuch_BadLine : PySem.W.subIn K (.ref CTooMuch) (.ref CBadLine) = some false)
    (sTooMuch_NoUndo : PySem.W.subIn K (.ref CTooMuch) (.ref CNoUndo) = some false)
    (z0 : PySem.W.nsIn K mainGlobals "len" = some none)
    (z1 : PySem.W.nsIn K mainGlobals "abs" = some none)
    (z2 : PySem.W.nsIn K mainGlobals "int" = some none)
    (z3 : PySem.W.nsIn K mainGlobals "sum" = some none)
    (z4 : PySem.W.nsIn K mainGlobals "max" = some none)
    (z5 : PySem.W.nsIn K mainGlobals "min" = some none)
    (z6 : PySem.W.nsIn K mainGlobals "range" = some none)
    (z7 : PySem.W.nsIn K mainGlobals "enumerate" = some none)
    (z8 : PySem.W.nsIn K mainGlobals "zip" = some none)
    (z9 : PySem.W.nsIn K mainGlobals "list" = some none)
    (z10 : PySem.W.nsIn K mainGlobals "isinstance" = some none)
    (z11 : PySem.W.nsIn K mainGlobals "bool" = some none)
    (z12 : PySem.W.nsIn K mainGlobals "str" = some none)
    (z13 : PySem.W.nsIn K mainGlobals "dict" = some none)
    (z14 : PySem.W.nsIn K mainGlobals "tuple" = some none)
    (z15 : PySem.W.nsIn K mainGlobals "sorted" = some none)
    (z16 : PySem.W.nsIn K mainGlobals "ValueError" = some none) :
    ∃ fd : FuncData, (∀ (s : Shared) (v : Value), BindsTo s fd ⟨[v], []⟩ [("script", v)]) ∧ ∀ base : Heap, K.In base → base.Ns mainGlobals mg → FnOk l.prog w K mg base CX0 9 fa fd ["script"] (spT K (allSh 1) W_law) := by
  have e := hfa.symm.trans (PySem.W.mg_of X G a24)
  cases e
  have F0 := fun_mk (st := s_hearers) l0 c0 k0
  have b0 := F0.binds (ps := ["lists"]) fun _ _ _ _ _ _ us hl => match us, hl with | [_], _ => rfl
  have F1 := fun_mk (st := s_matched) l1 c1 k1
  have b1 := F1.binds (ps := ["lists"]) fun _ _ _ _ _ _ us hl => match us, hl with | [_], _ => rfl
  have F2 := fun_mk (st := s_half_known) l2 c2 k2
  have b2 := F2.binds (ps := ["lists"]) fun _ _ _ _ _ _ us hl => match us, hl with | [_], _ => rfl
  have F3 := fun_mk (st := s_debts_of) l3 c3 k3
  have b3 := F3.binds (ps := ["count", "tickets"]) fun _ _ _ _ _ _ us hl => match us, hl with | [_, _], _ => rfl
  have F4 := fun_mk (st := s_positions) l4 c4 k4
  have b4 := F4.binds (ps := ["matrix"]) fun _ _ _ _ _ _ us hl => match us, hl with | [_], _ => rfl
  have F5 := fun_mk (st := s_net_tickets) l5 c5 k5
  have b5 := F5.binds (ps := ["matrix"]) fun _ _ _ _ _ _ us hl => match us, hl with | [_], _ => rfl
  have F6 := fun_mk (st := s__law_pool) l6 c6 k6
  have b6 := F6.binds (ps := ["script", "at", "salt"]) fun _ _ _ _ _ _ us hl => match us, hl with | [_, _, _], _ => rfl
  have F7 := fun_mk (st := s__law_mix) l7 c7 k7
  have b7 := F7.binds (ps := ["seed", "turn"]) fun _ _ _ _ _ _ us hl => match us, hl with | [_, _], _ => rfl
  have F8 := fun_mk (st := s__law_draw) l8 c8 k8
  have b8 := F8.binds (ps := ["pool", "many"]) fun _ _ _ _ _ _ us hl => match us, hl with | [_, _], _ => rfl
  have F9 := fun_mk (st := s__law_pick) l9 c9 k9
  have b9 := F9.binds (ps := ["pool", "row"]) fun _ _ _ _ _ _ us hl => match us, hl with | [_, _], _ => rfl
  have F10 := fun_mk (st := s__law_whole) l10 c10 k10
  have b10 := F10.binds (ps := ["thing"]) fun _ _ _ _ _ _ us hl => match us, hl with | [_], _ => rfl
  have F11 := fun_mk (st := s__law_same) l11 c11 k11
  have b11 := F11.binds (ps := ["told", "due"]) fun _ _ _ _ _ _ us hl => match us, hl with | [_, _], _ => rfl
  have F12 := fun_mk (st := s__law_error) l12 c12 k12
  have b12 := F12.binds (ps := ["e"]) fun _ _ _ _ _ _ us hl => match us, hl with | [_], _ => rfl
  have F13 := fun_mk (st := s__law_ticket) l13 c13 k13
  have b13 := F13.binds (ps := ["pool", "size", "menu"]) fun _ _ _ _ _ _ us hl => match us, hl with | [_, _, _], _ => rfl
  have F14 := fun_mk (st := s__law_heard) l14 c14 k14
  have b14 := F14.binds (ps := ["pool", "size"]) fun _ _ _ _ _ _ us hl => match us, hl with | [_, _], _ => rfl
  have F15 := fun_mk (st := s__law_known) l15 c15 k15
  have b15 := F15.binds (ps := ["lists"]) fun _ _ _ _ _ _ us hl => match us, hl with | [_], _ => rfl
  have F16 := fun_mk (st := s__law_matrix) l16 c16 k16
  have b16 := F16.binds (ps := ["size", "tickets"]) fun _ _ _ _ _ _ us hl => match us, hl with | [_, _], _ => rfl
  have F17 := fun_mk (st := s__law_too_much) l17 c17 k17
  have b17 := F17.binds (ps := ["matrix"]) fun _ _ _ _ _ _ us hl => match us, hl with | [_], _ => rfl
  have F18 := fun_mk (st := s__law_debts) l18 c18 k18
  have b18 := F18.binds (ps := ["size", "tickets"]) fun _ _ _ _ _ _ us hl => match us, hl with | [_, _], _ => rfl
  have F19 := fun_mk (st := s__law_positions) l19 c19 k19
  have b19 := F19.binds (ps := ["matrix"]) fun _ _ _ _ _ _ us hl => match us, hl with | [_], _ => rfl
  have F20 := fun_mk (st := s__law_netted) l20 c20 k20
  have b20 := F20.binds (ps := ["rests"]) fun _ _ _ _ _ _ us hl => match us, hl with | [_], _ => rfl
  have F21 := fun_mk (st := s__law_settles) l21 c21 k21
  have b21 := F21.binds (ps := ["matrix", "told"]) fun _ _ _ _ _ _ us hl => match us, hl with | [_, _], _ => rfl
  have F22 := fun_mk (st := s__law_edge_tickets) l22 c22 k22
  have b22 := F22.binds (ps := ["pool", "size", "tickets"]) fun _ _ _ _ _ _ us hl => match us, hl with | [_, _, _], _ => rfl
  have F23 := fun_mk (st := s__law_drawn_matrix) l23 c23 k23
  have b23 := F23.binds (ps := ["pool", "size"]) fun _ _ _ _ _ _ us hl => match us, hl with | [_, _], _ => rfl
  have F24 := fun_mk (st := s_law) l24 c24 k24
  have b24 := F24.binds (ps := ["script"]) fun _ _ _ _ _ _ us hl => match us, hl with | [_], _ => rfl
  have FITooMuch := fun_mk (st := i_TooMuch) lITooMuch cITooMuch kITooMuch
  have bITooMuch := FITooMuch.binds (ps := ["self", "coins"]) fun _ _ _ _ _ _ us hl => match us, hl with | [_, _], _ => rfl
  let xxTooMuch : XC1 K mg "TooMuch" "TooMuch.__init__" "coins" i_TooMuch := ⟨CTooMuch, dITooMuch, _, PySem.W.mg_of X G hTooMuch, ⟨⟨_, _, _, _, _, _, _, _, _, _, _, _, _, _, _, xLTooMuch, rBTooMuch⟩, saTooMuch, eCTooMuch, yTooMuch, kCTooMuch⟩, nITooMuch, tITooMuch, FITooMuch, bITooMuch, nbTooMuch⟩
  let GG : Gs K mg := {
    g_hearers := ⟨_, _, F0, b0, PySem.W.mg_of X G a0⟩
    g_matched := ⟨_, _, F1, b1, PySem.W.mg_of X G a1⟩
    g_half_known := ⟨_, _, F2, b2, PySem.W.mg_of X G a2⟩
    g_debts_of := ⟨_, _, F3, b3, PySem.W.mg_of X G a3⟩
    g_positions := ⟨_, _, F4, b4, PySem.W.mg_of X G a4⟩
    g_net_tickets := ⟨_, _, F5, b5, PySem.W.mg_of X G a5⟩
    g__law_pool := ⟨_, _, F6, b6, PySem.W.mg_of X G a6⟩
    g__law_mix := ⟨_, _, F7, b7, PySem.W.mg_of X G a7⟩
    g__law_draw := ⟨_, _, F8, b8, PySem.W.mg_of X G a8⟩
    g__law_pick := ⟨_, _, F9, b9, PySem.W.mg_of X G a9⟩
    g__law_whole := ⟨_, _, F10, b10, PySem.W.mg_of X G a10⟩
    g__law_same := ⟨_, _, F11, b11, PySem.W.mg_of X G a11⟩
    g__law_error := ⟨_, _, F12, b12, PySem.W.mg_of X G a12⟩
    g__law_ticket := ⟨_, _, F13, b13, PySem.W.mg_of X G a13⟩
    g__law_heard := ⟨_, _, F14, b14, PySem.W.mg_of X G a14⟩
    g__law_known := ⟨_, _, F15, b15, PySem.W.mg_of X G a15⟩
    g__law_matrix := ⟨_, _, F16, b16, PySem.W.mg_of X G a16⟩
    g__law_too_much := ⟨_, _, F17, b17, PySem.W.mg_of X G a17⟩
    g__law_debts := ⟨_, _, F18, b18, PySem.W.mg_of X G a18⟩
    g__law_positions := ⟨_, _, F19, b19, PySem.W.mg_of X G a19⟩
    g__law_netted := ⟨_, _, F20, b20, PySem.W.mg_of X G a20⟩
    g__law_settles := ⟨_, _, F21, b21, PySem.W.mg_of X G a21⟩
    g__law_edge_tickets := ⟨_, _, F22, b22, PySem.W.mg_of X G a22⟩
    g__law_drawn_matrix := ⟨_, _, F23, b23, PySem.W.mg_of X G a23⟩
    g_law := ⟨_, _, F24, b24, PySem.W.mg_of X G a24⟩
    z_len := PySem.W.mg_none_of X G z0
    z_abs := PySem.W.mg_none_of X G z1
    z_int := PySem.W.mg_none_of X G z2
    z_sum := PySem.W.mg_none_of X G z3
    z_max := PySem.W.mg_none_of X G z4
    z_min := PySem.W.mg_none_of X G z5
    z_range := PySem.W.mg_none_of X G z6
    z_enumerate := PySem.W.mg_none_of X G z7
    z_zip := PySem.W.mg_none_of X G z8
    z_list := PySem.W.mg_none_of X G z9
    z_isinstance := PySem.W.mg_none_of X G z10
    z_bool := PySem.W.mg_none_of X G z11
    z_str := PySem.W.mg_none_of X G z12
    z_dict := PySem.W.mg_none_of X G z13
    z_tuple := PySem.W.mg_none_of X G z14
    z_sorted := PySem.W.mg_none_of X G z15
    z_ValueError := PySem.W.mg_none_of X G z16
    c_debt := ⟨_, PySem.W.mg_of X G cst0⟩
    a_PensionError := CPensionError
    ga_PensionError := PySem.W.mg_of X G hPensionError
    a_BadNumber := CBadNumber
    ga_BadNumber := PySem.W.mg_of X G hBadNumber
    a_BadDay := CBadDay
    ga_BadDay := PySem.W.mg_of X G hBadDay
    a_NoName := CNoName
    ga_NoName := PySem.W.mg_of X G hNoName
    a_Clash := CClash
    ga_Clash := PySem.W.mg_of X G hClash
    a_Full := CFull
    ga_Full := PySem.W.mg_of X G hFull
    a_Refused := CRefused
    ga_Refused := PySem.W.mg_of X G hRefused
    a_TooFar := CTooFar
    ga_TooFar := PySem.W.mg_of X G hTooFar
    a_TooLarge := CTooLarge
    ga_TooLarge := PySem.W.mg_of X G hTooLarge
    a_TooMuch := CTooMuch
    ga_TooMuch := PySem.W.mg_of X G hTooMuch
    a_BadLine := CBadLine
    ga_BadLine := PySem.W.mg_of X G hBadLine
    a_NoUndo := CNoUndo
    ga_NoUndo := PySem.W.mg_of X G hNoUndo
    x_TooMuch := xxTooMuch
    e_TooMuch := rfl
    ex_TooMuch := ⟨gaTooMuch, ggTooMuch, eCTooMuch, hCTooMuch, gcTooMuch, n1, n2, mOTooMuch⟩
    xf_TooMuch := ⟨gaTooMuch, ggTooMuch, eCTooMuch, hCTooMuch⟩
    cp_TooMuch := exm_cl eP iPensionError yPensionError sTooMuch_PensionError
    k_TooMuch_BadNumber := kit_no sTooMuch_TooMuch iBadNumber yBadNumber sTooMuch_BadNumber
    k_TooMuch_BadDay := kit_no sTooMuch_TooMuch iBadDay yBadDay sTooMuch_BadDay
    k_TooMuch_NoName := kit_no sTooMuch_TooMuch iNoName yNoName sTooMuch_NoName
    k_TooMuch_Clash := kit_no sTooMuch_TooMuch iClash yClash sTooMuch_Clash
    k_TooMuch_Full := kit_no sTooMuch_TooMuch iFull yFull sTooMuch_Full
    k_TooMuch_Refused := kit_no sTooMuch_TooMuch iRefused yRefused sTooMuch_Refused
    k_TooMuch_TooFar := kit_no sTooMuch_TooMuch iTooFar yTooFar sTooMuch_TooFar
    k_TooMuch_TooLarge := kit_no sTooMuch_TooMuch iTooLarge yTooLarge sTooMuch_TooLarge
    k_TooMuch_TooMuch := kit_self
    k_TooMuch_BadLine := kit_no sTooMuch_TooMuch iBadLine yBadLine sTooMuch_BadLine
    k_TooMuch_NoUndo := kit_no sTooMuch_TooMuch iNoUndo yNoUndo sTooMuch_NoUndo
    k_TooMuch_VE := kit_VE vCTooMuch }
  exact ⟨_, fun s v => .of_eq (fd := PySem.W.fnOf "law" "law" (defArgs s_law) (defBody s_law) (defScope s_law) .none kV24 dc24 pm24 an24 cd24 ct24) rfl, fun base _ _ => ok_law (k := 0) GG⟩
end K95
open PySem PySem.W PyProof.Rows
set_option maxHeartbeats 0 in
theorem PySem.Challenge.cw_pensionhall_k95_ring_tickets_holds : PySem.Challenge.rw_pensionhall_k95_ring_tickets.Holds := by
  w_on; o_law; k_head; (case hw => w_witness2)
  k_fill
  refine L2.walk_of (l := PySem.Challenge.rw_pensionhall_k95_ring_tickets) (n := 63) (k := 9) (x := "script") (CX := fun _ => L2.CX0) (sp := fun w => TL.spT _ (TL.allSh 1) K95.W_law) rfl (by decide) rfl ⟨rfl, by decide, by decide⟩ (fun w h Y => PySem.W.kIn_of Y) ?F (fun _ _ a ns hl hO hS => K95.law_sp hO hS) (fun _ _ _ _ _ h => h)
  case F =>
    intro w mg fa h KX G hmg
    refine' K95.all_mk KX G hmg ?a0 ?l0 ?c0 ?k0 ?a1 ?l1 ?c1 ?k1 ?a2 ?l2 ?c2 ?k2 ?a3 ?l3 ?c3 ?k3 ?a4 ?l4 ?c4 ?k4 ?a5 ?l5 ?c5 ?k5 ?a6 ?l6 ?c6 ?k6 ?a7 ?l7 ?c7 ?k7 ?a8 ?l8 ?c8 ?k8 ?a9 ?l9 ?c9 ?k9 ?a10 ?l10 ?c10 ?k10 ?a11 ?l11 ?c11 ?k11 ?a12 ?l12 ?c12 ?k12 ?a13 ?l13 ?c13 ?k13 ?a14 ?l14 ?c14 ?k14 ?a15 ?l15 ?c15 ?k15 ?a16 ?l16 ?c16 ?k16 ?a17 ?l17 ?c17 ?k17 ?a18 ?l18 ?c18 ?k18 ?a19 ?l19 ?c19 ?k19 ?a20 ?l20 ?c20 ?k20 ?a21 ?l21 ?c21 ?k21 ?a22 ?l22 ?c22 ?k22 ?a23 ?l23 ?c23 ?k23 ?a24 ?l24 ?c24 ?k24 ?cst0 ?hPensionError ?hBadNumber ?hBadDay ?hNoName ?hClash ?hFull ?hRefused ?hTooFar ?hTooLarge ?hTooMuch ?hBadLine ?hNoUndo ?iPensionError ?yPensionError ?iBadNumber ?yBadNumber ?iBadDay ?yBadDay ?iNoName ?yNoName ?iClash ?yClash ?iFull ?yFull ?iRefused ?yRefused ?iTooFar ?yTooFar ?iTooLarge ?yTooLarge ?iTooMuch ?yTooMuch ?iBadLine ?yBadLine ?iNoUndo ?yNoUndo ?eP ?n1 ?n2 ?xLTooMuch ?rBTooMuch ?saTooMuch ?gaTooMuch ?ggTooMuch ?gcTooMuch ?nbTooMuch ?nITooMuch ?tITooMuch ?lITooMuch ?cITooMuch ?kITooMuch ?kCTooMuch ?eCTooMuch ?vCTooMuch ?hCTooMuch ?mOTooMuch ?sTooMuch_PensionError ?sTooMuch_BadNumber ?sTooMuch_BadDay ?sTooMuch_NoName ?sTooMuch_Clash ?sTooMuch_Full ?sTooMuch_Refused ?sTooMuch_TooFar ?sTooMuch_TooLarge ?sTooMuch_TooMuch ?sTooMuch_BadLine ?sTooMuch_NoUndo ?z0 ?z1 ?z2 ?z3 ?z4 ?z5 ?z6 ?z7 ?z8 ?z9 ?z10 ?z11 ?z12 ?z13 ?z14 ?z15 ?z16
    (case a0 => k_is)
    (case l0 => k_is)
    (case c0 => k_is)
    (case k0 => k_is)
    (case a1 => k_is)
    (case l1 => k_is)
    (case c1 => k_is)
    (case k1 => k_is)
    (case a2 => k_is)
    (case l2 => k_is)
    (case c2 => k_is)
    (case k2 => k_is)
    (case a3 => k_is)
    (case l3 => k_is)
    (case c3 => k_is)
    (case k3 => k_is)
    (case a4 => k_is)
    (case l4 => k_is)
    (case c4 => k_is)
    (case k4 => k_is)
    (case a5 => k_is)
    (case l5 => k_is)
    (case c5 => k_is)
    (case k5 => k_is)
    (case a6 => k_is)
    (case l6 => k_is)
    (case c6 => k_is)
    (case k6 => k_is)
    (case a7 => k_is)
    (case l7 => k_is)
    (case c7 => k_is)
    (case k7 => k_is)
    (case a8 => k_is)
    (case l8 => k_is)
    (case c8 => k_is)
    (case k8 => k_is)
    (case a9 => k_is)
    (case l9 => k_is)
    (case c9 => k_is)
    (case k9 => k_is)
    (case a10 => k_is)
    (case l10 => k_is)
    (case c10 => k_is)
    (case k10 => k_is)
    (case a11 => k_is)
    (case l11 => k_is)
    (case c11 => k_is)
    (case k11 => k_is)
    (case a12 => k_is)
    (case l12 => k_is)
    (case c12 => k_is)
    (case k12 => k_is)
    (case a13 => k_is)
    (case l13 => k_is)
    (case c13 => k_is)
    (case k13 => k_is)
    (case a14 => k_is)
    (case l14 => k_is)
    (case c14 => k_is)
    (case k14 => k_is)
    (case a15 => k_is)
    (case l15 => k_is)
    (case c15 => k_is)
    (case k15 => k_is)
    (case a16 => k_is)
    (case l16 => k_is)
    (case c16 => k_is)
    (case k16 => k_is)
    (case a17 => k_is)
    (case l17 => k_is)
    (case c17 => k_is)
    (case k17 => k_is)
    (case a18 => k_is)
    (case l18 => k_is)
    (case c18 => k_is)
    (case k18 => k_is)
    (case a19 => k_is)
    (case l19 => k_is)
    (case c19 => k_is)
    (case k19 => k_is)
    (case a20 => k_is)
    (case l20 => k_is)
    (case c20 => k_is)
    (case k20 => k_is)
    (case a21 => k_is)
    (case l21 => k_is)
    (case c21 => k_is)
    (case k21 => k_is)
    (case a22 => k_is)
    (case l22 => k_is)
    (case c22 => k_is)
    (case k22 => k_is)
    (case a23 => k_is)
    (case l23 => k_is)
    (case c23 => k_is)
    (case k23 => k_is)
    (case a24 => k_is)
    (case l24 => k_is)
    (case c24 => k_is)
    (case k24 => k_is)
    (case cst0 => k_is)
    (case hPensionError => k_is)
    (case hBadNumber => k_is)
    (case hBadDay => k_is)
    (case hNoName => k_is)
    (case hClash => k_is)
    (case hFull => k_is)
    (case hRefused => k_is)
    (case hTooFar => k_is)
    (case hTooLarge => k_is)
    (case hTooMuch => k_is)
    (case hBadLine => k_is)
    (case hNoUndo => k_is)
    (case iPensionError => first | rfl | k_is)
    (case yPensionError => k_is)
    (case iBadNumber => first | rfl | k_is)
    (case yBadNumber => k_is)
    (case iBadDay => first | rfl | k_is)
    (case yBadDay => k_is)
    (case iNoName => first | rfl | k_is)
    (case yNoName => k_is)
    (case iClash => first | rfl | k_is)
    (case yClash => k_is)
    (case iFull => first | rfl | k_is)
    (case yFull => k_is)
    (case iRefused => first | rfl | k_is)
    (case yRefused => k_is)
    (case iTooFar => first | rfl | k_is)
    (case yTooFar => k_is)
    (case iTooLarge => first | rfl | k_is)
    (case yTooLarge => k_is)
    (case iTooMuch => first | rfl | k_is)
    (case yTooMuch => k_is)
    (case iBadLine => first | rfl | k_is)
    (case yBadLine => k_is)
    (case iNoUndo => first | rfl | k_is)
    (case yNoUndo => k_is)
    (case eP => k_is)
    (case n1 => k_is)
    (case n2 => k_is)
    (case xLTooMuch => k_is)
    (case rBTooMuch => decide +kernel)
    (case saTooMuch => first | rfl | k_is)
    (case gaTooMuch => k_is)
    (case ggTooMuch => k_is)
    (case gcTooMuch => k_is)
    (case nbTooMuch => k_is)
    (case nITooMuch => k_is)
    (case tITooMuch => k_is)
    (case lITooMuch => k_is)
    (case cITooMuch => k_is)
    (case kITooMuch => k_is)
    (case kCTooMuch => k_is)
    (case eCTooMuch => k_is)
    (case vCTooMuch => k_is)
    (case hCTooMuch => k_is)
    (case mOTooMuch => k_is)
    (case sTooMuch_PensionError => first | rfl | k_is)
    (case sTooMuch_BadNumber => first | rfl | k_is)
    (case sTooMuch_BadDay => first | rfl | k_is)
    (case sTooMuch_NoName => first | rfl | k_is)
    (case sTooMuch_Clash => first | rfl | k_is)
    (case sTooMuch_Full => first | rfl | k_is)
    (case sTooMuch_Refused => first | rfl | k_is)
    (case sTooMuch_TooFar => first | rfl | k_is)
    (case sTooMuch_TooLarge => first | rfl | k_is)
    (case sTooMuch_TooMuch => first | rfl | k_is)
    (case sTooMuch_BadLine => first | rfl | k_is)
    (case sTooMuch_NoUndo => first | rfl | k_is)
    (case z0 => k_is)
    (case z1 => k_is)
    (case z2 => k_is)
    (case z3 => k_is)
    (case z4 => k_is)
    (case z5 => k_is)
    (case z6 => k_is)
    (case z7 => k_is)
    (case z8 => k_is)
    (case z9 => k_is)
    (case z10 => k_is)
    (case z11 => k_is)
    (case z12 => k_is)
    (case z13 => k_is)
    (case z14 => k_is)
    (case z15 => k_is)
    (case z16 => k_is)
